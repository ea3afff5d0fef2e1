import PyProof.Rows.All
import Wide.All
import OpenK.AllK
import Wide.FinOn
import HandS.ForMost
import HandS.Walk
import HandS.Flow
import HandS.Defaults
import HandS.TupAny
import HandS.TupLe
import HandS.IsInst
import HandS.Wide
import HandS.SortInts
import HandS.SortRule
import HandS.Style
import HandS.Conv
import HandS.SetFor
import HandS.Strs
import KE.DatumOrd
import KE.DatumMoreOrd
import PyProof.ReprReads
import HandS.More
import HandS.Ends
import HandS.Head0
import HandS.Head1
import HandS.Head2
import HandS.HeadEnd
import HandS.HeadHook1
import HandS.HeadHook2
import HandS.Deep
import HandS.Property
import HandS.Star
import KE.KOpsOwn
import KE.KCallOwn
import HandS.StrMore
import HandS.StrSplit
import HandS.WideBits
import KE.DataEq
import PyProof.StrLawsRepr
import PyProof.StrLawsTight
import KE.KIntText
import KE.KxText
import PySem.Challenge.RW_scanmisses_k26_accesses_by_index
set_option Elab.async false
set_option linter.all false
set_option maxRecDepth 100000
section
set_option maxHeartbeats 2000000
/-! DLa: data D over the abstract heap: what stands for what, cells (lists and instances that change), and how they are kept. -/
namespace DL
open PySem PySem.Spec PyProof.Rows L2

/-- Python's data as trees; ref: a cell of the store; obj: an instance that does not change any more -/
inductive D where
  | non | bl (b : Bool) | int (i : Int) | str (x : Str)
  | tup (l : List D) | lst (l : List D) | ref (n : Nat) | obj (c : Nat) (l : List D)
/-- what a cell holds -/
inductive CC where
  | lst (l : List D) | ins (k : Nat) (fs : List (Str × D))
structure Cell where
  live : Bool
  c : CC
abbrev Cells := List Cell
/-- an exception: its class by number, its one argument -/
structure Xc where
  cls : Nat
  arg : Option D
inductive R (α : Type) where
  | ok (a : α) (S : Cells) | err (x : Xc) (S : Cells) | stuck
abbrev M (α : Type) := Cells → R α
def M.pure {α : Type} (a : α) : M α := fun S => .ok a S
def M.bind {α β : Type} (f : M α) (g : α → M β) : M β := fun S => match f S with
  | .ok a S' => g a S'
  | .err x S' => .err x S'
  | .stuck => .stuck
def stuck {α : Type} : M α := fun _ => .stuck

/-- classes by number: where they stand, their attributes' names -/
structure Tab where
  C : Nat → Addr
  N : Nat → List Str

mutual
inductive Rp (K : PySem.W.Frag) (T : Tab) (γ : List Addr) (F : Hp) : D → V → Prop
  | non : Rp K T γ F .non .non
  | bl (b : Bool) : Rp K T γ F (.bl b) (.bl b)
  | int (i : Int) : Rp K T γ F (.int i) (.int i)
  | str (x : Str) : x.length ≤ sizeLine → Rp K T γ F (.str x) (.str x)
  | lst {a : Addr} {ds : List D} {vs : List V} : SqL K F a vs → ds.length ≤ sizeLine → RpL K T γ F ds vs → Rp K T γ F (.lst ds) (.ref a)
  | tup {a : Addr} {ds : List D} {vs : List V} : SqT K F a vs → ds.length ≤ sizeLine → RpL K T γ F ds vs → Rp K T γ F (.tup ds) (.ref a)
  | ref {n : Nat} {a : Addr} : γ[n]? = some a → Rp K T γ F (.ref n) (.ref a)
  | obj {a dx : Addr} {c : Nat} {ds : List D} {vs : List V} : F a = some (.ins (T.C c) dx ((T.N c).zip vs)) → vs.length = (T.N c).length → RpL K T γ F ds vs → Rp K T γ F (.obj c ds) (.ref a)
inductive RpL (K : PySem.W.Frag) (T : Tab) (γ : List Addr) (F : Hp) : List D → List V → Prop
  | nil : RpL K T γ F [] []
  | cons {d : D} {ds : List D} {v : V} {vs : List V} : Rp K T γ F d v → RpL K T γ F ds vs → RpL K T γ F (d :: ds) (v :: vs)
end

section
variable {K : PySem.W.Frag} {T : Tab} {γ γ' : List Addr} {F F' : Hp}
theorem same_seqT {H H' : Hp} {a : Addr} {xs : List V} (e : Same H H') (h : SqT K H a xs) : SqT K H' a xs := by
  rcases h with (h | ⟨o, h⟩) | h
  · exact .inl (.inl (e _ _ h))
  · exact .inl (.inr ⟨o, e _ _ h⟩)
  · exact .inr h
mutual
theorem Rp.mono (hg : ∀ (n : Nat) (a : Addr), γ[n]? = some a → γ'[n]? = some a) (hs : Same F F') : ∀ (d : D) (v : V), Rp K T γ F d v → Rp K T γ' F' d v
  | .non, _, h => by cases h; exact .non
  | .bl _, _, h => by cases h; exact .bl _
  | .int _, _, h => by cases h; exact .int _
  | .str _, _, h => by cases h with | str x z => exact .str _ z
  | .lst ds, _, h => by cases h with | lst a z b => exact .lst (hs.seq a) z (RpL.mono hg hs ds _ b)
  | .tup ds, _, h => by cases h with | tup a z b => exact .tup (same_seqT hs a) z (RpL.mono hg hs ds _ b)
  | .ref n, _, h => by cases h with | ref a => exact .ref (hg _ _ a)
  | .obj c ds, _, h => by cases h with | obj a b e => exact .obj (hs _ _ a) b (RpL.mono hg hs ds _ e)
theorem RpL.mono (hg : ∀ (n : Nat) (a : Addr), γ[n]? = some a → γ'[n]? = some a) (hs : Same F F') : ∀ (ds : List D) (vs : List V), RpL K T γ F ds vs → RpL K T γ' F' ds vs
  | [], _, h => by cases h; exact .nil
  | d :: ds, _, h => by cases h with | cons a b => exact .cons (Rp.mono hg hs d _ a) (RpL.mono hg hs ds _ b)
end
theorem RpL.length : ∀ {ds : List D} {vs : List V}, RpL K T γ F ds vs → ds.length = vs.length
  | [], _, h => by cases h; rfl
  | d :: ds, _, h => by cases h with | cons a b => simp [RpL.length b]
theorem RpL.get : ∀ {ds : List D} {vs : List V} {i : Nat} {d : D}, RpL K T γ F ds vs → ds[i]? = some d → ∃ v, vs[i]? = some v ∧ Rp K T γ F d v
  | [], _, _, _, _, h => by simp at h
  | d :: ds, _, 0, _, h, e => by
    cases h with
    | cons a b =>
      rw [List.getElem?_cons_zero] at e
      cases e
      exact ⟨_, rfl, a⟩
  | d :: ds, _, i + 1, _, h, e => by
    cases h with
    | cons a b => exact RpL.get b (i := i) (by simpa using e)
theorem RpL.get' : ∀ {ds : List D} {vs : List V} {i : Nat} {v : V}, RpL K T γ F ds vs → vs[i]? = some v → ∃ d, ds[i]? = some d ∧ Rp K T γ F d v := by
  intro ds vs i v h e
  have hl := h.length
  have hi : i < ds.length := by
    have := (List.getElem?_eq_some_iff.mp e).1
    omega
  obtain ⟨v', e', r⟩ := h.get (List.getElem?_eq_getElem hi)
  rw [e] at e'
  cases e'
  exact ⟨_, List.getElem?_eq_getElem hi, r⟩
theorem RpL.append : ∀ {ds es : List D} {vs ws : List V}, RpL K T γ F ds vs → RpL K T γ F es ws → RpL K T γ F (ds ++ es) (vs ++ ws)
  | [], _, _, _, h, q => by cases h; exact q
  | d :: ds, _, _, _, h, q => by cases h with | cons a b => exact .cons a (RpL.append b q)
theorem RpL.one {d : D} {v : V} (h : Rp K T γ F d v) : RpL K T γ F [d] [v] := .cons h .nil
theorem RpL.take : ∀ {ds : List D} {vs : List V} (n : Nat), RpL K T γ F ds vs → RpL K T γ F (ds.take n) (vs.take n)
  | _, _, 0, _ => .nil
  | [], _, _ + 1, h => by cases h; exact .nil
  | d :: ds, _, n + 1, h => by cases h with | cons a b => exact .cons a (RpL.take n b)
theorem RpL.drop : ∀ {ds : List D} {vs : List V} (n : Nat), RpL K T γ F ds vs → RpL K T γ F (ds.drop n) (vs.drop n)
  | _, _, 0, h => h
  | [], _, _ + 1, h => by cases h; exact .nil
  | d :: ds, _, n + 1, h => by cases h with | cons a b => exact RpL.drop n b
theorem RpL.set {d : D} {v : V} (r : Rp K T γ F d v) : ∀ {ds : List D} {vs : List V} (i : Nat), RpL K T γ F ds vs → RpL K T γ F (ds.set i d) (vs.set i v)
  | [], _, _, h => by cases h; exact .nil
  | e :: ds, _, 0, h => by cases h with | cons a b => exact .cons r b
  | e :: ds, _, i + 1, h => by cases h with | cons a b => exact .cons a (RpL.set r i b)
theorem RpL.eraseIdx : ∀ {ds : List D} {vs : List V} (i : Nat), RpL K T γ F ds vs → RpL K T γ F (ds.eraseIdx i) (vs.eraseIdx i)
  | [], _, _, h => by cases h; exact .nil
  | e :: ds, _, 0, h => by cases h with | cons a b => exact b
  | e :: ds, _, i + 1, h => by cases h with | cons a b => exact .cons a (RpL.eraseIdx i b)
theorem RpL.reverse {ds : List D} {vs : List V} (h : RpL K T γ F ds vs) : RpL K T γ F ds.reverse vs.reverse := by
  induction ds generalizing vs with
  | nil => cases h; exact .nil
  | cons d ds ih =>
    cases h with
    | cons a b =>
      rw [List.reverse_cons, List.reverse_cons]
      exact (ih b).append (.one a)
theorem RpL.flatten (n : Nat) {ds : List D} {vs : List V} (h : RpL K T γ F ds vs) : RpL K T γ F (List.replicate n ds).flatten (List.replicate n vs).flatten := by
  induction n with
  | zero => exact .nil
  | succ n ih =>
    rw [List.replicate_succ, List.replicate_succ, List.flatten_cons, List.flatten_cons]
    exact h.append ih
theorem RpL.insertIdx {d : D} {v : V} (r : Rp K T γ F d v) : ∀ {ds : List D} {vs : List V} (i : Nat), RpL K T γ F ds vs → RpL K T γ F (ds.insertIdx i d) (vs.insertIdx i v)
  | ds, vs, 0, h => by
    rw [List.insertIdx_zero, List.insertIdx_zero]
    exact .cons r h
  | [], _, i + 1, h => by
    cases h
    rw [List.insertIdx_succ_nil, List.insertIdx_succ_nil]
    exact .nil
  | e :: ds, _, i + 1, h => by
    cases h with
    | cons a b =>
      rw [List.insertIdx_succ_cons, List.insertIdx_succ_cons]
      exact .cons a (RpL.insertIdx r i b)
/-- the ints of a list -/
def ints? : List D → Option (List Int)
  | [] => some []
  | .int i :: r => (ints? r).map (i :: ·)
  | _ => none
theorem ints?_map (ns : List Int) : ints? (ns.map .int) = some ns := by
  induction ns with
  | nil => rfl
  | cons n ns ih => rw [List.map_cons]; show (ints? _).map _ = _; rw [ih]; rfl
theorem ints?_rep : ∀ {ds : List D} {vs : List V} {ns : List Int}, RpL K T γ F ds vs → ints? ds = some ns → vs = ns.map V.int ∧ ds = ns.map D.int
  | [], _, ns, h, e => by
    cases h
    cases e
    exact ⟨rfl, rfl⟩
  | .int i :: ds, _, ns, h, e => by
    cases h with
    | cons a b =>
      cases a
      have e' : (ints? ds).map (i :: ·) = some ns := e
      cases q : ints? ds with
      | none => rw [q] at e'; cases e'
      | some ms =>
        rw [q] at e'
        cases e'
        obtain ⟨h1, h2⟩ := ints?_rep b q
        rw [h1, h2]
        exact ⟨rfl, rfl⟩
  | .non :: ds, _, ns, h, e => nomatch e
  | .bl _ :: ds, _, ns, h, e => nomatch e
  | .str _ :: ds, _, ns, h, e => nomatch e
  | .tup _ :: ds, _, ns, h, e => nomatch e
  | .lst _ :: ds, _, ns, h, e => nomatch e
  | .ref _ :: ds, _, ns, h, e => nomatch e
  | .obj _ _ :: ds, _, ns, h, e => nomatch e
theorem rep_ints : ∀ (ns : List Int), RpL K T γ F (ns.map D.int) (ns.map V.int)
  | [] => .nil
  | n :: ns => .cons (.int n) (rep_ints ns)
/-- the bools of a list -/
def bls? : List D → Option (List Bool)
  | [] => some []
  | .bl i :: r => (bls? r).map (i :: ·)
  | _ => none
theorem bls?_map (ns : List Bool) : bls? (ns.map .bl) = some ns := by
  induction ns with
  | nil => rfl
  | cons n ns ih => rw [List.map_cons]; show (bls? _).map _ = _; rw [ih]; rfl
theorem bls?_rep : ∀ {ds : List D} {vs : List V} {ns : List Bool}, RpL K T γ F ds vs → bls? ds = some ns → vs = ns.map V.bl ∧ ds = ns.map D.bl
  | [], _, ns, h, e => by
    cases h
    cases e
    exact ⟨rfl, rfl⟩
  | .bl i :: ds, _, ns, h, e => by
    cases h with
    | cons a b =>
      cases a
      have e' : (bls? ds).map (i :: ·) = some ns := e
      cases q : bls? ds with
      | none => rw [q] at e'; cases e'
      | some ms =>
        rw [q] at e'
        cases e'
        obtain ⟨h1, h2⟩ := bls?_rep b q
        rw [h1, h2]
        exact ⟨rfl, rfl⟩
  | .non :: ds, _, ns, h, e => nomatch e
  | .int _ :: ds, _, ns, h, e => nomatch e
  | .str _ :: ds, _, ns, h, e => nomatch e
  | .tup _ :: ds, _, ns, h, e => nomatch e
  | .lst _ :: ds, _, ns, h, e => nomatch e
  | .ref _ :: ds, _, ns, h, e => nomatch e
  | .obj _ _ :: ds, _, ns, h, e => nomatch e
/-- no cell is named in it -/
def D.flat : D → Bool
  | .ref _ => false
  | .lst l => l.attach.all fun ⟨d, _⟩ => d.flat
  | .tup l => l.attach.all fun ⟨d, _⟩ => d.flat
  | .obj _ l => l.attach.all fun ⟨d, _⟩ => d.flat
  | _ => true
def flatL (l : List D) : Bool := l.all D.flat
theorem flat_lst (l : List D) : (D.lst l).flat = flatL l := by
  unfold D.flat flatL
  simp
theorem flat_tup (l : List D) : (D.tup l).flat = flatL l := by
  unfold D.flat flatL
  simp
theorem flat_obj (c : Nat) (l : List D) : (D.obj c l).flat = flatL l := by
  unfold D.flat flatL
  simp
@[simp] theorem flat_non : D.non.flat = true := by simp [D.flat]
@[simp] theorem flat_bl (b : Bool) : (D.bl b).flat = true := by simp [D.flat]
@[simp] theorem flat_int (b : Int) : (D.int b).flat = true := by simp [D.flat]
@[simp] theorem flat_str (b : Str) : (D.str b).flat = true := by simp [D.flat]
@[simp] theorem flat_ref (b : Nat) : (D.ref b).flat = false := by simp [D.flat]
theorem flatL_cons (d : D) (l : List D) : flatL (d :: l) = (d.flat && flatL l) := rfl
mutual
theorem Rp.toflat : ∀ (d : D) (v : V), d.flat = true → Rp K T γ F d v → Rp K T [] F d v
  | .non, _, _, h => by cases h; exact .non
  | .bl _, _, _, h => by cases h; exact .bl _
  | .int _, _, _, h => by cases h; exact .int _
  | .str _, _, _, h => by cases h with | str x z => exact .str _ z
  | .lst ds, _, f, h => by cases h with | lst a z b => exact .lst a z (RpL.toflat ds _ (by rw [flat_lst] at f; exact f) b)
  | .tup ds, _, f, h => by cases h with | tup a z b => exact .tup a z (RpL.toflat ds _ (by rw [flat_tup] at f; exact f) b)
  | .ref n, _, f, h => by simp at f
  | .obj c ds, _, f, h => by cases h with | obj a b e => exact .obj a b (RpL.toflat ds _ (by rw [flat_obj] at f; exact f) e)
theorem RpL.toflat : ∀ (ds : List D) (vs : List V), flatL ds = true → RpL K T γ F ds vs → RpL K T [] F ds vs
  | [], _, _, h => by cases h; exact .nil
  | d :: ds, _, f, h => by
    rw [flatL_cons, Bool.and_eq_true] at f
    cases h with | cons a b => exact .cons (Rp.toflat d _ f.1 a) (RpL.toflat ds _ f.2 b)
end
theorem Rp.nil_any (hs : Same F F') {d : D} {v : V} (h : Rp K T [] F d v) : Rp K T γ F' d v := Rp.mono (by simp) hs d v h
theorem RpL.nil_any (hs : Same F F') {d : List D} {v : List V} (h : RpL K T [] F d v) : RpL K T γ F' d v := RpL.mono (by simp) hs d v h
mutual
theorem Rp.nilflat : ∀ (d : D) (v : V), Rp K T [] F d v → d.flat = true
  | .non, _, h => by simp
  | .bl _, _, h => by simp
  | .int _, _, h => by simp
  | .str _, _, h => by simp
  | .lst ds, _, h => by cases h with | lst a z b => rw [flat_lst]; exact RpL.nilflat ds _ b
  | .tup ds, _, h => by cases h with | tup a z b => rw [flat_tup]; exact RpL.nilflat ds _ b
  | .ref n, _, h => by cases h with | ref a => simp at a
  | .obj c ds, _, h => by cases h with | obj a b e => rw [flat_obj]; exact RpL.nilflat ds _ e
theorem RpL.nilflat : ∀ (ds : List D) (vs : List V), RpL K T [] F ds vs → flatL ds = true
  | [], _, _ => rfl
  | d :: ds, _, h => by
    cases h with | cons a b => rw [flatL_cons, Rp.nilflat d _ a, RpL.nilflat ds _ b]; rfl
end
end

/-! ### the store -/
def liveAt (γ : List Addr) (S : Cells) (b : Addr) : Bool := (γ.zip S).any fun p => decide (p.1 = b) && p.2.live
theorem liveAt_iff {γ : List Addr} {S : Cells} {b : Addr} : liveAt γ S b = true ↔ ∃ (n : Nat) (c : Cell), γ[n]? = some b ∧ S[n]? = some c ∧ c.live = true := by
  unfold liveAt
  rw [List.any_eq_true]
  constructor
  · rintro ⟨p, hp, h⟩
    obtain ⟨n, hn⟩ := List.mem_iff_getElem?.mp hp
    rw [List.getElem?_zip_eq_some] at hn
    simp only [Bool.and_eq_true, decide_eq_true_eq] at h
    exact ⟨n, p.2, by rw [hn.1, h.1], hn.2, h.2⟩
  · rintro ⟨n, c, h1, h2, h3⟩
    refine ⟨(b, c), List.mem_iff_getElem?.mpr ⟨n, ?_⟩, by simp [h3]⟩
    rw [List.getElem?_zip_eq_some]
    exact ⟨h1, h2⟩
/-- the heap without the live cells and what is hidden -/
def out (γ : List Addr) (S : Cells) (hid : List Addr) (H : Hp) : Hp := fun b => if (decide (b ∈ hid) || liveAt γ S b) = true then none else H b
theorem out_sub (γ : List Addr) (S : Cells) (hid : List Addr) (H : Hp) : Same (out γ S hid H) H := fun b o h => by
  unfold out at h
  split at h
  · cases h
  · exact h
theorem out_some {γ : List Addr} {S : Cells} {hid : List Addr} {H : Hp} {b : Addr} {o : HO} : out γ S hid H b = some o ↔ b ∉ hid ∧ liveAt γ S b = false ∧ H b = some o := by
  unfold out
  by_cases h1 : b ∈ hid
  · simp [h1]
  · cases h2 : liveAt γ S b <;> simp [h1]
/-- what a cell's object is -/
inductive CRep (K : PySem.W.Frag) (T : Tab) (F : Hp) : CC → HO → Prop
  | lst {l : List D} {vs : List V} : l.length ≤ sizeLine → RpL K T [] F l vs → CRep K T F (.lst l) (.lst vs)
  | ins {k : Nat} {dx : Addr} {fs : List (Str × D)} {gs : List (Str × V)} : fs.map (·.1) = gs.map (·.1) → RpL K T [] F (fs.map (·.2)) (gs.map (·.2)) → CRep K T F (.ins k fs) (.ins (T.C k) dx gs)
theorem CRep.mono {K : PySem.W.Frag} {T : Tab} {F F' : Hp} {c : CC} {o : HO} (hs : Same F F') (h : CRep K T F c o) : CRep K T F' c o := by
  cases h with
  | lst z r => exact .lst z (r.nil_any hs)
  | ins e r => exact .ins e (r.nil_any hs)
structure Hold (K : PySem.W.Frag) (T : Tab) (γ hid : List Addr) (S : Cells) (H : Hp) : Prop where
  len : γ.length = S.length
  nd : γ.Nodup
  cell : ∀ (n : Nat) (a : Addr) (c : Cell), γ[n]? = some a → S[n]? = some c → ∃ o, H a = some o ∧ CRep K T (out γ S hid H) c.c o
  hidT : ∀ a ∈ hid, H a ≠ none
  hidG : ∀ a ∈ hid, a ∉ γ
structure Ext (γ : List Addr) (S : Cells) (H : Hp) (γ' : List Addr) (S' : Cells) (H' : Hp) : Prop where
  pre : ∀ (n : Nat) (a : Addr), γ[n]? = some a → γ'[n]? = some a
  same : Same (out γ S [] H) (out γ' S' [] H')
theorem Ext.refl (γ : List Addr) (S : Cells) (H : Hp) : Ext γ S H γ S H := ⟨fun _ _ h => h, Same.refl _⟩
theorem Ext.trans {γ γ1 γ2 : List Addr} {S S1 S2 : Cells} {H H1 H2 : Hp} (a : Ext γ S H γ1 S1 H1) (b : Ext γ1 S1 H1 γ2 S2 H2) : Ext γ S H γ2 S2 H2 :=
  ⟨fun n x h => b.pre n x (a.pre n x h), a.same.trans b.same⟩
theorem Ext.sameH {γ γ' : List Addr} {S S' : Cells} {H H' : Hp} (e : Ext γ S H γ' S' H') (hid : List Addr) : Same (out γ S hid H) (out γ' S' hid H') := fun b o h => by
  obtain ⟨h1, h2, h3⟩ := out_some.mp h
  obtain ⟨_, q2, q3⟩ := out_some.mp (e.same b o (out_some.mpr ⟨by simp, h2, h3⟩))
  exact out_some.mpr ⟨h1, q2, q3⟩
theorem Ext.rp {K : PySem.W.Frag} {T : Tab} {γ γ' hid : List Addr} {S S' : Cells} {H H' : Hp} (e : Ext γ S H γ' S' H') {d : D} {v : V} (h : Rp K T γ (out γ S hid H) d v) : Rp K T γ' (out γ' S' hid H') d v := Rp.mono e.pre (e.sameH hid) d v h
theorem Ext.rpl {K : PySem.W.Frag} {T : Tab} {γ γ' hid : List Addr} {S S' : Cells} {H H' : Hp} (e : Ext γ S H γ' S' H') {d : List D} {v : List V} (h : RpL K T γ (out γ S hid H) d v) : RpL K T γ' (out γ' S' hid H') d v := RpL.mono e.pre (e.sameH hid) d v h
/-- a hidden thing stays -/
theorem Ext.hid {K : PySem.W.Frag} {T : Tab} {γ γ' hid : List Addr} {S S' : Cells} {H H' : Hp} (e : Ext γ S H γ' S' H') (h : Hold K T γ hid S H) {a : Addr} {o : HO} (ha : a ∈ hid) (ho : H a = some o) : H' a = some o := by
  refine (out_some.mp (e.same a o (out_some.mpr ⟨by simp, ?_, ho⟩))).2.2
  cases q : liveAt γ S a with
  | false => rfl
  | true =>
    obtain ⟨n, c, h1, _, _⟩ := liveAt_iff.mp q
    exact absurd (List.mem_of_getElem? h1) (h.hidG a ha)
section
variable {K : PySem.W.Frag} {T : Tab} {γ hid : List Addr} {S : Cells} {H : Hp}
theorem Hold.at (h : Hold K T γ hid S H) {n : Nat} {c : Cell} (e : S[n]? = some c) : ∃ a, γ[n]? = some a := by
  have : n < γ.length := by
    rw [h.len]
    exact (List.getElem?_eq_some_iff.mp e).1
  exact ⟨_, List.getElem?_eq_getElem this⟩
theorem Hold.at' (h : Hold K T γ hid S H) {n : Nat} {a : Addr} (e : γ[n]? = some a) : ∃ c, S[n]? = some c := by
  have : n < S.length := by
    rw [← h.len]
    exact (List.getElem?_eq_some_iff.mp e).1
  exact ⟨_, List.getElem?_eq_getElem this⟩
theorem nd_ix {α : Type} {l : List α} (h : l.Nodup) {i j : Nat} {x : α} (a : l[i]? = some x) (b : l[j]? = some x) : i = j := by
  obtain ⟨h1, e1⟩ := List.getElem?_eq_some_iff.mp a
  obtain ⟨h2, e2⟩ := List.getElem?_eq_some_iff.mp b
  exact (List.getElem_inj h).mp (e1.trans e2.symm)
theorem Hold.live (h : Hold K T γ hid S H) {n : Nat} {a : Addr} {c : Cell} (e : γ[n]? = some a) (q : S[n]? = some c) : liveAt γ S a = c.live := by
  cases z : c.live with
  | true => exact liveAt_iff.mpr ⟨n, c, e, q, z⟩
  | false =>
    cases z2 : liveAt γ S a with
    | false => rfl
    | true =>
      obtain ⟨m, c', h1, h2, h3⟩ := liveAt_iff.mp z2
      have := nd_ix h.nd e h1
      subst this
      rw [q] at h2
      cases h2
      rw [z] at h3
      cases h3
/-- a new thing that is no cell -/
theorem Hold.fresh (h : Hold K T γ hid S H) {p : Addr} (np : H p = none) : p ∉ γ ∧ p ∉ hid := by
  refine ⟨fun hp => ?_, fun hp => h.hidT p hp np⟩
  obtain ⟨n, hn⟩ := List.mem_iff_getElem?.mp hp
  obtain ⟨c, hc⟩ := h.at' hn
  obtain ⟨o, ho, _⟩ := h.cell n p c hn hc
  rw [np] at ho
  cases ho
theorem live_no {b : Addr} (hb : b ∉ γ) : liveAt γ S b = false := by
  cases q : liveAt γ S b with
  | false => rfl
  | true =>
    obtain ⟨n, c, h1, _, _⟩ := liveAt_iff.mp q
    exact absurd (List.mem_of_getElem? h1) hb
theorem Hold.lay (h : Hold K T γ hid S H) {p : Addr} (np : H p = none) (o : HO) : Hold K T γ hid S (upd H p o) ∧ Ext γ S H γ S (upd H p o) ∧ ∀ hd, p ∉ hd → out γ S hd (upd H p o) p = some o := by
  obtain ⟨h1, h2⟩ := h.fresh np
  have sm : ∀ hd, Same (out γ S hd H) (out γ S hd (upd H p o)) := fun hd b u hb => by
    obtain ⟨a1, a2, a3⟩ := out_some.mp hb
    exact out_some.mpr ⟨a1, a2, by rw [upd_ne (ne_of_none a3 np)]; exact a3⟩
  refine ⟨⟨h.len, h.nd, fun n a c e1 e2 => ?_, fun a ha => ?_, h.hidG⟩, ⟨fun _ _ q => q, sm []⟩, fun hd hp => out_some.mpr ⟨hp, live_no h1, upd_same⟩⟩
  · obtain ⟨u, hu, r⟩ := h.cell n a c e1 e2
    exact ⟨u, by rw [upd_ne (ne_of_none hu np)]; exact hu, r.mono (sm hid)⟩
  · have : a ≠ p := fun e => h2 (e ▸ ha)
    rw [upd_ne this]
    exact h.hidT a ha
/-- a new live cell -/
theorem Hold.newCell (h : Hold K T γ hid S H) {p : Addr} (np : H p = none) {c : CC} {o : HO} (r : CRep K T (out γ S hid H) c o) :
    Hold K T (γ ++ [p]) hid (S ++ [⟨true, c⟩]) (upd H p o) ∧ Ext γ S H (γ ++ [p]) (S ++ [⟨true, c⟩]) (upd H p o) := by
  obtain ⟨h1, h2⟩ := h.fresh np
  have lv : ∀ b, b ≠ p → liveAt (γ ++ [p]) (S ++ [⟨true, c⟩]) b = liveAt γ S b := fun b hb => by
    unfold liveAt
    rw [List.zip_append h.len, List.any_append]
    simp [Ne.symm hb]
  have sm : ∀ hd, Same (out γ S hd H) (out (γ ++ [p]) (S ++ [⟨true, c⟩]) hd (upd H p o)) := fun hd b u hb => by
    obtain ⟨a1, a2, a3⟩ := out_some.mp hb
    have ne := ne_of_none a3 np
    exact out_some.mpr ⟨a1, by rw [lv b ne]; exact a2, by rw [upd_ne ne]; exact a3⟩
  refine ⟨⟨by simp [h.len], ?_, fun n a c' e1 e2 => ?_, fun a ha => ?_, fun a ha => ?_⟩, ⟨fun n a q => ?_, sm []⟩⟩
  · rw [List.nodup_append]
    refine ⟨h.nd, by simp, fun a ha b hb e => h1 ?_⟩
    have z : b = p := by simpa using hb
    rw [← z, ← e]
    exact ha
  · by_cases hn : n < γ.length
    · rw [List.getElem?_append_left hn] at e1
      rw [List.getElem?_append_left (by rw [← h.len]; exact hn)] at e2
      obtain ⟨u, hu, r'⟩ := h.cell n a c' e1 e2
      exact ⟨u, by rw [upd_ne (ne_of_none hu np)]; exact hu, r'.mono (sm hid)⟩
    · have hn' : γ.length ≤ n := by omega
      rw [List.getElem?_append_right hn'] at e1
      rw [List.getElem?_append_right (by rw [← h.len]; exact hn')] at e2
      rw [h.len] at e1
      cases q : n - S.length with
      | zero =>
        rw [q] at e1 e2
        cases e1
        cases e2
        exact ⟨o, upd_same, r.mono (sm hid)⟩
      | succ m =>
        rw [q] at e1
        simp at e1
  · have : a ≠ p := fun e => h2 (e ▸ ha)
    rw [upd_ne this]
    exact h.hidT a ha
  · intro hm
    rcases List.mem_append.mp hm with hm | hm
    · exact h.hidG a ha hm
    · have : a = p := by simpa using hm
      exact h2 (this ▸ ha)
  · exact (List.getElem?_append_left (List.getElem?_eq_some_iff.mp q).1).trans q
/-- a live cell is changed -/
theorem Hold.write (h : Hold K T γ hid S H) {n : Nat} {a : Addr} {c c' : CC} {o : HO} (e : γ[n]? = some a) (q : S[n]? = some ⟨true, c⟩) (r : CRep K T (out γ S hid H) c' o) :
    Hold K T γ hid (S.set n ⟨true, c'⟩) (upd H a o) ∧ Ext γ S H γ (S.set n ⟨true, c'⟩) (upd H a o) := by
  have hn : n < S.length := (List.getElem?_eq_some_iff.mp q).1
  have lv : ∀ b, liveAt γ (S.set n ⟨true, c'⟩) b = liveAt γ S b := fun b => by
    apply Bool.eq_iff_iff.mpr
    rw [liveAt_iff, liveAt_iff]
    constructor
    · rintro ⟨m, d, h1, h2, h3⟩
      by_cases hm : n = m
      · subst hm
        exact ⟨n, _, h1, q, rfl⟩
      · rw [List.getElem?_set_ne hm] at h2
        exact ⟨m, d, h1, h2, h3⟩
    · rintro ⟨m, d, h1, h2, h3⟩
      by_cases hm : n = m
      · subst hm
        exact ⟨n, _, h1, List.getElem?_set_self hn, rfl⟩
      · exact ⟨m, d, h1, by rw [List.getElem?_set_ne hm]; exact h2, h3⟩
  have la : liveAt γ S a = true := liveAt_iff.mpr ⟨n, _, e, q, rfl⟩
  have sm : ∀ hd, Same (out γ S hd H) (out γ (S.set n ⟨true, c'⟩) hd (upd H a o)) := fun hd b u hb => by
    obtain ⟨a1, a2, a3⟩ := out_some.mp hb
    have ne : b ≠ a := fun z => by rw [z, la] at a2; cases a2
    exact out_some.mpr ⟨a1, by rw [lv b]; exact a2, by rw [upd_ne ne]; exact a3⟩
  refine ⟨⟨by simp [h.len], h.nd, fun m b d e1 e2 => ?_, fun b hb => ?_, h.hidG⟩, ⟨fun _ _ z => z, sm []⟩⟩
  · by_cases hm : n = m
    · subst hm
      rw [List.getElem?_set_self hn] at e2
      cases e2
      rw [e] at e1
      cases e1
      exact ⟨o, upd_same, r.mono (sm hid)⟩
    · rw [List.getElem?_set_ne hm] at e2
      obtain ⟨u, hu, r'⟩ := h.cell m b d e1 e2
      have ne : b ≠ a := fun z => hm (nd_ix h.nd e (z ▸ e1))
      exact ⟨u, by rw [upd_ne ne]; exact hu, r'.mono (sm hid)⟩
  · by_cases hb' : b = a
    · rw [hb', upd_same]
      simp
    · rw [upd_ne hb']
      exact h.hidT b hb
/-- a cell is frozen -/
theorem Hold.freeze (h : Hold K T γ hid S H) {n : Nat} {b : Bool} {c : CC} (q : S[n]? = some ⟨b, c⟩) : Hold K T γ hid (S.set n ⟨false, c⟩) H ∧ Ext γ S H γ (S.set n ⟨false, c⟩) H := by
  have hn : n < S.length := (List.getElem?_eq_some_iff.mp q).1
  have lv : ∀ b, liveAt γ S b = false → liveAt γ (S.set n ⟨false, c⟩) b = false := fun b hb => by
    cases z : liveAt γ (S.set n ⟨false, c⟩) b with
    | false => rfl
    | true =>
      obtain ⟨m, d, h1, h2, h3⟩ := liveAt_iff.mp z
      by_cases hm : n = m
      · subst hm
        rw [List.getElem?_set_self hn] at h2
        cases h2
        cases h3
      · rw [List.getElem?_set_ne hm] at h2
        rw [liveAt_iff.mpr ⟨m, d, h1, h2, h3⟩] at hb
        cases hb
  have sm : ∀ hd, Same (out γ S hd H) (out γ (S.set n ⟨false, c⟩) hd H) := fun hd b u hb => by
    obtain ⟨a1, a2, a3⟩ := out_some.mp hb
    exact out_some.mpr ⟨a1, lv b a2, a3⟩
  refine ⟨⟨by simp [h.len], h.nd, fun m x d e1 e2 => ?_, h.hidT, h.hidG⟩, ⟨fun _ _ z => z, sm []⟩⟩
  by_cases hm : n = m
  · subst hm
    rw [List.getElem?_set_self hn] at e2
    cases e2
    obtain ⟨u, hu, r'⟩ := h.cell n x _ e1 q
    exact ⟨u, hu, r'.mono (sm hid)⟩
  · rw [List.getElem?_set_ne hm] at e2
    obtain ⟨u, hu, r'⟩ := h.cell m x d e1 e2
    exact ⟨u, hu, r'.mono (sm hid)⟩
theorem getElem?_take_some {α : Type} {l : List α} {k n : Nat} {x : α} (h : (l.take k)[n]? = some x) : l[n]? = some x ∧ n < k := by
  rw [List.getElem?_take] at h
  split at h
  · exact ⟨h, by assumption⟩
  · cases h
/-- the last cells are forgotten: they are no cells any more -/
theorem Hold.cut (h : Hold K T γ hid S H) (k : Nat) : Hold K T (γ.take k) hid (S.take k) H ∧ ∀ hd, Same (out γ S hd H) (out (γ.take k) (S.take k) hd H) := by
  have lv : ∀ b, liveAt γ S b = false → liveAt (γ.take k) (S.take k) b = false := fun b hb => by
    cases z : liveAt (γ.take k) (S.take k) b with
    | false => rfl
    | true =>
      obtain ⟨m, d, h1, h2, h3⟩ := liveAt_iff.mp z
      rw [liveAt_iff.mpr ⟨m, d, (getElem?_take_some h1).1, (getElem?_take_some h2).1, h3⟩] at hb
      cases hb
  have sm : ∀ hd, Same (out γ S hd H) (out (γ.take k) (S.take k) hd H) := fun hd b u hb => by
    obtain ⟨a1, a2, a3⟩ := out_some.mp hb
    exact out_some.mpr ⟨a1, lv b a2, a3⟩
  refine ⟨⟨by simp [h.len], h.nd.sublist (List.take_sublist _ _), fun m x d e1 e2 => ?_, h.hidT, fun a ha hm => h.hidG a ha (List.mem_of_mem_take hm)⟩, sm⟩
  obtain ⟨u, hu, r'⟩ := h.cell m x d (getElem?_take_some e1).1 (getElem?_take_some e2).1
  exact ⟨u, hu, r'.mono (sm hid)⟩
/-- a hidden thing -/
theorem Hold.hide (h : Hold K T γ hid S H) {p : Addr} (np : H p = none) (o : HO) : Hold K T γ (p :: hid) S (upd H p o) ∧ Same (out γ S hid H) (out γ S (p :: hid) (upd H p o)) := by
  obtain ⟨h1, h2⟩ := h.fresh np
  have sm : Same (out γ S hid H) (out γ S (p :: hid) (upd H p o)) := fun b u hb => by
    obtain ⟨a1, a2, a3⟩ := out_some.mp hb
    have ne := ne_of_none a3 np
    exact out_some.mpr ⟨by simp [ne, a1], a2, by rw [upd_ne ne]; exact a3⟩
  refine ⟨⟨h.len, h.nd, fun n a c e1 e2 => ?_, fun a ha => ?_, fun a ha => ?_⟩, sm⟩
  · obtain ⟨u, hu, r⟩ := h.cell n a c e1 e2
    exact ⟨u, by rw [upd_ne (ne_of_none hu np)]; exact hu, r.mono sm⟩
  · by_cases e : a = p
    · rw [e, upd_same]
      simp
    · rw [upd_ne e]
      rcases List.mem_cons.mp ha with z | z
      · exact absurd z e
      · exact h.hidT a z
  · rcases List.mem_cons.mp ha with z | z
    · rw [z]; exact h1
    · exact h.hidG a z
/-- a hidden thing is changed -/
theorem Hold.rewrite (h : Hold K T γ hid S H) {p : Addr} (hp : p ∈ hid) (o : HO) : Hold K T γ hid S (upd H p o) ∧ ∀ b, out γ S hid (upd H p o) b = out γ S hid H b := by
  have sm : ∀ b, out γ S hid (upd H p o) b = out γ S hid H b := fun b => by
    unfold out
    by_cases e : b = p
    · rw [if_pos (by simp [e, hp]), if_pos (by simp [e, hp])]
    · rw [upd_ne e]
  refine ⟨⟨h.len, h.nd, fun n a c e1 e2 => ?_, fun a ha => ?_, h.hidG⟩, sm⟩
  · obtain ⟨u, hu, r⟩ := h.cell n a c e1 e2
    have ne : a ≠ p := fun z => h.hidG p hp (z ▸ List.mem_of_getElem? e1)
    exact ⟨u, by rw [upd_ne ne]; exact hu, r.mono fun b u hb => by rw [sm b]; exact hb⟩
  · by_cases e : a = p
    · rw [e, upd_same]
      simp
    · rw [upd_ne e]
      exact h.hidT a ha
end
end DL
end
section
set_option maxHeartbeats 2000000
/-! DLb: the judgements over data: expressions, tests, arguments, fresh lists, statements. -/
namespace DL
open PySem PySem.Spec L2
open PyProof.Rows hiding St

abbrev En := List (Option D)
structure EnvR (K : PySem.W.Frag) (T : Tab) (γ : List Addr) (F : Hp) (ρ : En) (σ : St) : Prop where
  len : ρ.length = σ.length
  get : ∀ (i : Nat) (d : D), ρ[i]? = some (some d) → ∃ v, σ[i]? = some (some v) ∧ Rp K T γ F d v
theorem EnvR.mono {K : PySem.W.Frag} {T : Tab} {γ γ' : List Addr} {F F' : Hp} {ρ : En} {σ : St} (hg : ∀ (n : Nat) (a : Addr), γ[n]? = some a → γ'[n]? = some a) (hs : Same F F') (e : EnvR K T γ F ρ σ) : EnvR K T γ' F' ρ σ :=
  ⟨e.len, fun i d h => let ⟨v, h1, h2⟩ := e.get i d h; ⟨v, h1, Rp.mono hg hs d v h2⟩⟩
theorem EnvR.set {K : PySem.W.Frag} {T : Tab} {γ : List Addr} {F : Hp} {ρ : En} {σ : St} (e : EnvR K T γ F ρ σ) (i : Nat) {d : D} {v : V} (r : Rp K T γ F d v) : EnvR K T γ F (ρ.set i (some d)) (σ.set i (some v)) := by
  refine ⟨by simp [e.len], fun j d' h => ?_⟩
  by_cases hj : i = j
  · subst hj
    have hi : i < ρ.length := by
      have := (List.getElem?_eq_some_iff.mp h).1
      simpa using this
    rw [List.getElem?_set_self hi] at h
    cases h
    exact ⟨v, List.getElem?_set_self (by rw [← e.len]; exact hi), r⟩
  · rw [List.getElem?_set_ne hj] at h
    obtain ⟨v', h1, h2⟩ := e.get j d' h
    exact ⟨v', by rw [List.getElem?_set_ne hj]; exact h1, h2⟩
/-- the wish about exceptions -/
abbrev XX := Xc → En → List Addr → List Addr → Cells → Hp → St → Prop
def XX0 : XX := fun _ _ _ _ _ _ _ => False

section
variable (K : PySem.W.Frag) (T : Tab) (EE : XX)
/-- what is wanted of a result -/
def resG {α β : Type} (rep : List Addr → Hp → α → β → Prop) (γ hid : List Addr) (S : Cells) (H : Hp) (ρ : En) (σ : St) (r : R α) (Q : β → Hp → Prop) : Prop := match r with
  | .ok a S' => ∀ (γ' : List Addr) (H' : Hp) (b : β), Hold K T γ' hid S' H' → Ext γ S H γ' S' H' → rep γ' (out γ' S' hid H') a b → Q b H'
  | .err x S' => ∀ (γ' : List Addr) (H' : Hp), Hold K T γ' hid S' H' → Ext γ S H γ' S' H' → EE x ρ γ' hid S' H' σ
  | .stuck => False
def dG {α β : Type} (rep : List Addr → Hp → α → β → Prop) (f : En → M α) : St → Hp → (β → Hp → Prop) → Prop := fun σ H Q =>
  ∃ γ hid S ρ, Hold K T γ hid S H ∧ EnvR K T γ (out γ S hid H) ρ σ ∧ resG K T EE rep γ hid S H ρ σ (f ρ S) Q
abbrev repE : List Addr → Hp → D → V → Prop := Rp K T
abbrev repA : List Addr → Hp → List D → List V → Prop := RpL K T
/-- a list's items -/
def repL : List Addr → Hp → List D → List V → Prop := fun γ F l vs => l.length ≤ sizeLine ∧ RpL K T γ F l vs
def repB : List Addr → Hp → Bool → Bool → Prop := fun _ _ a b => a = b
def dE (f : En → M D) : TE := dG K T EE (repE K T) f
def dT (f : En → M Bool) : TT := dG K T EE repB f
def dA (f : En → M (List D)) : TA := dG K T EE (repA K T) f
/-- a new list with these items -/
def dL (f : En → M (List D)) : TE := fun σ H Q => dG K T EE (repL K T) f σ H fun vs H' => ∀ p, H' p = none → Q (.ref p) (upd H' p (.lst vs))
end
section
variable {K : PySem.W.Frag} {T : Tab} {EE : XX}
theorem resG.base {α β : Type} {rep : List Addr → Hp → α → β → Prop} {γ γ1 hid : List Addr} {S S1 : Cells} {H H1 : Hp} {ρ : En} {σ : St} {r : R α} {Q : β → Hp → Prop} (h : resG K T EE rep γ hid S H ρ σ r Q) (e : Ext γ S H γ1 S1 H1) :
    resG K T EE rep γ1 hid S1 H1 ρ σ r Q := by
  cases r with
  | ok a S' => exact fun γ' H' b a1 a2 a3 => h γ' H' b a1 (e.trans a2) a3
  | err x S' => exact fun γ' H' a1 a2 => h γ' H' a1 (e.trans a2)
  | stuck => exact h
theorem resG.imp {α β : Type} {rep : List Addr → Hp → α → β → Prop} {γ hid : List Addr} {S : Cells} {H : Hp} {ρ : En} {σ : St} {r : R α} {Q Q' : β → Hp → Prop} (h : resG K T EE rep γ hid S H ρ σ r Q) (i : ∀ b H', Q b H' → Q' b H') :
    resG K T EE rep γ hid S H ρ σ r Q' := by
  cases r with
  | ok a S' => exact fun γ' H' b a1 a2 a3 => i _ _ (h γ' H' b a1 a2 a3)
  | err x S' => exact h
  | stuck => exact h
/-- one thing, then another -/
theorem bindR {α β α' β' : Type} {rep : List Addr → Hp → α → β → Prop} {rep' : List Addr → Hp → α' → β' → Prop} {γ hid : List Addr} {S : Cells} {H : Hp} {ρ : En} {σ : St} {Q : β' → Hp → Prop} {f : En → M α} {g : α → M α'}
    (hold : Hold K T γ hid S H) (env : EnvR K T γ (out γ S hid H) ρ σ) (h : resG K T EE rep' γ hid S H ρ σ ((M.bind (f ρ) g) S) Q) :
    dG K T EE rep f σ H fun b H1 => ∃ a γ1 S1, Hold K T γ1 hid S1 H1 ∧ Ext γ S H γ1 S1 H1 ∧ EnvR K T γ1 (out γ1 S1 hid H1) ρ σ ∧ rep γ1 (out γ1 S1 hid H1) a b ∧ resG K T EE rep' γ1 hid S1 H1 ρ σ (g a S1) Q := by
  refine ⟨γ, hid, S, ρ, hold, env, ?_⟩
  have h' : resG K T EE rep' γ hid S H ρ σ (match f ρ S with
    | .ok a S' => g a S'
    | .err x S' => .err x S'
    | .stuck => .stuck) Q := h
  cases q : f ρ S with
  | ok a S1 =>
    rw [q] at h'
    exact fun γ1 H1 b a1 a2 a3 => ⟨a, γ1, S1, a1, a2, env.mono a2.pre (a2.sameH hid), a3, h'.base a2⟩
  | err x S1 =>
    rw [q] at h'
    exact h'
  | stuck =>
    rw [q] at h'
    exact h'
theorem bindD {α β α' β' : Type} {rep : List Addr → Hp → α → β → Prop} {rep' : List Addr → Hp → α' → β' → Prop} {H : Hp} {σ : St} {Q : β' → Hp → Prop} {f : En → M α} {g : En → α → M α'}
    (h : dG K T EE rep' (fun ρ => M.bind (f ρ) (g ρ)) σ H Q) :
    dG K T EE rep f σ H fun b H1 => ∃ a γ1 hid S1 ρ, Hold K T γ1 hid S1 H1 ∧ EnvR K T γ1 (out γ1 S1 hid H1) ρ σ ∧ rep γ1 (out γ1 S1 hid H1) a b ∧ resG K T EE rep' γ1 hid S1 H1 ρ σ (g ρ a S1) Q := by
  obtain ⟨γ, hid, S, ρ, hold, env, h⟩ := h
  obtain ⟨γ', hid', S', ρ', h1, h2, h3⟩ := bindR (rep := rep) hold env h
  exact ⟨γ', hid', S', ρ', h1, h2, h3.imp fun b H1 ⟨a, γ1, S1, q1, q2, q3, q4, q5⟩ => ⟨a, γ1, hid, S1, ρ, q1, q3, q4, q5⟩⟩
end

/-- e's value is f -/
structure EvE (X : Cx) (T : Tab) (EE : XX) (e : Expr) (f : En → M D) : Prop where
  pe : PE X e (dE X.K T EE f)
structure EvL (X : Cx) (T : Tab) (EE : XX) (e : Expr) (f : En → M (List D)) : Prop where
  pe : PE X e (dL X.K T EE f)
structure EvT (X : Cx) (T : Tab) (EE : XX) (e : Expr) (f : En → M Bool) : Prop where
  pt : PT X e (dT X.K T EE f)
structure EvW (X : Cx) (T : Tab) (EE : XX) (e : Expr) (f : En → M Bool) : Prop where
  pw : PW X e (dT X.K T EE f)
structure EvA (X : Cx) (T : Tab) (EE : XX) (es : List Expr) (f : En → M (List D)) : Prop where
  pa : PA X es (dA X.K T EE f)
theorem _root_.L2.PE.dimp {X : Cx} {e : Expr} {t t' : TE} (h : PE X e t) (i : ∀ σ H Q, t' σ H Q → t σ H Q) : PE X e t' := ⟨fun pins s σ H Q I q => h.run pins s σ H Q I (i _ _ _ q)⟩
theorem _root_.L2.PT.dimp {X : Cx} {e : Expr} {t t' : TT} (h : PT X e t) (i : ∀ σ H Q, t' σ H Q → t σ H Q) : PT X e t' := ⟨fun pins s σ H Q I q => h.run pins s σ H Q I (i _ _ _ q)⟩
theorem _root_.L2.PW.dimp {X : Cx} {e : Expr} {t t' : TT} (h : PW X e t) (i : ∀ σ H Q, t' σ H Q → t σ H Q) : PW X e t' := ⟨fun w pins s σ H Q I q => h.run w pins s σ H Q I (i _ _ _ q)⟩
theorem _root_.L2.PA.dimp {X : Cx} {e : List Expr} {t t' : TA} (h : PA X e t) (i : ∀ σ H Q, t' σ H Q → t σ H Q) : PA X e t' := ⟨fun p pins s σ H Q I q => h.run p pins s σ H Q I (i _ _ _ q)⟩
theorem _root_.L2.OpR.dimp {X : Cx} {f : Value → Value → Sem Value} {r r' : R2} (h : OpR X f r) (i : ∀ x y H Q, r' x y H Q → r x y H Q) : OpR X f r' := fun pins s σ H x y v u Q I rx ry q => h pins s σ H x y v u Q I rx ry (i _ _ _ _ q)
theorem _root_.L2.CallR.dimp {X : Cx} {f : Value} {r r' : List V → Hp → VK → Prop} (h : CallR X f r) (i : ∀ x H Q, r' x H Q → r x H Q) : CallR X f r' := fun pins s σ H xs us Q I rx q => h pins s σ H xs us Q I rx (i _ _ _ q)

/-! ### steps that raise nothing -/
/-- without a change of the store -/
def M.opt {α : Type} (f : Cells → Option α) : M α := fun S => match f S with
  | some a => .ok a S
  | none => .stuck
/-- with one -/
def M.chg {α : Type} (f : Cells → Option (α × Cells)) : M α := fun S => match f S with
  | some (a, S') => .ok a S'
  | none => .stuck
/-- a value is wanted -/
def okV (K : PySem.W.Frag) (T : Tab) (γ hid : List Addr) (S : Cells) (H : Hp) (d : D) (S' : Cells) (Q : VK) : Prop :=
  ∀ (γ' : List Addr) (H' : Hp) (v : V), Hold K T γ' hid S' H' → Ext γ S H γ' S' H' → Rp K T γ' (out γ' S' hid H') d v → Q v H'
def okL (K : PySem.W.Frag) (T : Tab) (γ hid : List Addr) (S : Cells) (H : Hp) (l : List D) (S' : Cells) (Q : VK) : Prop :=
  ∀ (γ' : List Addr) (H' : Hp) (vs : List V), Hold K T γ' hid S' H' → Ext γ S H γ' S' H' → l.length ≤ sizeLine → RpL K T γ' (out γ' S' hid H') l vs → ∀ p, H' p = none → Q (.ref p) (upd H' p (.lst vs))
section
variable {X : Cx} {T : Tab} {EE : XX} {a b e : Expr} {es : List Expr} {fa fb f : En → M D} {fs : En → M (List D)} {pos : Pos}

theorem bind_of_ok {α β : Type} {f : M α} {g : α → M β} {S S' : Cells} {a : α} (e : f S = .ok a S') : (M.bind (f) g) S = g a S' := by
  unfold M.bind
  rw [e]
theorem bind_of_stuck {α β : Type} {f : M α} {g : α → M β} {S : Cells} (e : f S = .stuck) : (M.bind (f) g) S = .stuck := by
  unfold M.bind
  rw [e]
theorem bind_of_err {α β : Type} {f : M α} {g : α → M β} {S S' : Cells} {x : Xc} (e : f S = .err x S') : (M.bind (f) g) S = .err x S' := by
  unfold M.bind
  rw [e]
theorem opt_some {α : Type} {f : Cells → Option α} {S : Cells} {a : α} (e : f S = some a) : M.opt f S = .ok a S := by
  unfold M.opt
  rw [e]
theorem opt_none {α : Type} {f : Cells → Option α} {S : Cells} (e : f S = none) : M.opt f S = .stuck := by
  unfold M.opt
  rw [e]
/-! ### names and constants -/
def rd (ρ : En) (i : Nat) : M D := fun S => match ρ[i]? with
  | some (some d) => .ok d S
  | _ => .stuck
theorem ev_var (i : Nat) {x : Str} (hN : X.N[i]? = some x) (hv : Vis X.env.scope x) (hd : (x == ("__debug__" : Str)) = false := by decide) (hcd : (x == ("__classdict__" : Str)) = false := by decide) : EvE X T EE (.Name x pos) (fun ρ => rd ρ i) := by
  refine ⟨(pe_var hN hv hd hcd).dimp fun σ H Q h => ?_⟩
  obtain ⟨γ, hid, S, ρ, hold, env, h⟩ := h
  have h : resG X.K T EE (repE X.K T) γ hid S H ρ σ (rd ρ i S) Q := h
  unfold rd at h
  split at h
  · rename_i d hd
    obtain ⟨v, h1, h2⟩ := env.get i d hd
    exact ⟨v, h1, h γ H v hold (Ext.refl _ _ _) h2⟩
  · exact h.elim
def kon (d : D) : M D := fun S => .ok d S
theorem konR {K : PySem.W.Frag} {d : D} {v : V} {σ : St} {H : Hp} {Q : VK} (h : dE K T EE (fun _ => kon d) σ H Q) (r : ∀ γ F, Rp K T γ F d v) : Q v H := by
  obtain ⟨γ, hid, S, ρ, hold, env, h⟩ := h
  exact h γ H v hold (Ext.refl _ _ _) (r _ _)
theorem ev_int {i : Int} {j : Nat} : EvE X T EE (.Constant (.int i) j pos) (fun _ => kon (.int i)) := ⟨pe_int.dimp fun σ H Q h => konR h fun _ _ => .int _⟩
theorem ev_bl {i : Bool} {j : Nat} : EvE X T EE (.Constant (.bool i) j pos) (fun _ => kon (.bl i)) := ⟨pe_bl.dimp fun σ H Q h => konR h fun _ _ => .bl _⟩
theorem ev_non {j : Nat} : EvE X T EE (.Constant .none j pos) (fun _ => kon .non) := ⟨pe_non.dimp fun σ H Q h => konR h fun _ _ => .non⟩
theorem ev_str {i : Str} {j : Nat} (z : i.length ≤ sizeLine) : EvE X T EE (.Constant (.str i) j pos) (fun _ => kon (.str i)) := ⟨pe_str.dimp fun σ H Q h => konR h fun _ _ => .str _ z⟩
/-- a module's int -/
theorem ev_gint {x : Str} {i : Int} {u : Value} (hg : Gl X x) (hm : X.mg x = some u) (r : RelV (.int i) u) (hd : (x == ("__debug__" : Str)) = false := by decide) : EvE X T EE (.Name x pos) (fun _ => kon (.int i)) := ⟨(pe_glob hg hm r hd).dimp fun σ H Q h => konR h fun _ _ => .int _⟩

/-! ### operators -/
/-- an operator by its data function -/
def rO (K : PySem.W.Frag) (T : Tab) (op : D → D → Cells → Option D) : R2 := fun x y H Q => ∃ γ hid S d1 d2 d, Hold K T γ hid S H ∧ Rp K T γ (out γ S hid H) d1 x ∧ Rp K T γ (out γ S hid H) d2 y ∧ op d1 d2 S = some d ∧ okV K T γ hid S H d S Q
def rOL (K : PySem.W.Frag) (T : Tab) (op : D → D → Cells → Option (List D)) : R2 := fun x y H Q => ∃ γ hid S d1 d2 l, Hold K T γ hid S H ∧ Rp K T γ (out γ S hid H) d1 x ∧ Rp K T γ (out γ S hid H) d2 y ∧ op d1 d2 S = some l ∧ okL K T γ hid S H l S Q
theorem opt_ok {K : PySem.W.Frag} {α β : Type} {rep : List Addr → Hp → α → β → Prop} {γ hid : List Addr} {S : Cells} {H : Hp} {ρ : En} {σ : St} {Q : β → Hp → Prop} {f : Cells → Option α} (h : resG K T EE rep γ hid S H ρ σ (M.opt f S) Q) : ∃ a, f S = some a ∧ resG K T EE rep γ hid S H ρ σ (.ok a S) Q := by
  unfold M.opt at h
  split at h
  · rename_i a e
    exact ⟨a, e, h⟩
  · exact h.elim
theorem two {K : PySem.W.Frag} {op : D → D → Cells → Option D} {σ : St} {H : Hp} {Q : VK} (h : dE K T EE (fun ρ => M.bind (fa ρ) fun x => M.bind (fb ρ) fun y => M.opt (op x y)) σ H Q) : tOp (rO K T op) (dE K T EE fa) (dE K T EE fb) σ H Q := by
  refine (show dG K T EE (repE K T) fa σ H _ from ?_)
  obtain ⟨γ, hid, S, ρ, hold, env, h⟩ := h
  obtain ⟨_, _, _, _, h1, h2, h3⟩ := bindR (rep := repE K T) hold env h
  refine ⟨_, _, _, _, h1, h2, h3.imp fun x H1 ⟨d1, γ1, S1, q1, q2, q3, q4, q5⟩ => ?_⟩
  obtain ⟨_, _, _, _, h1, h2, h3⟩ := bindR (rep := repE K T) q1 q3 q5
  refine ⟨_, _, _, _, h1, h2, h3.imp fun y H2 ⟨d2, γ2, S2, w1, w2, w3, w4, w5⟩ => ?_⟩
  obtain ⟨d, e, w5⟩ := opt_ok w5
  exact ⟨γ2, hid, S2, d1, d2, d, w1, w2.rp q4, w4, e, w5⟩
theorem twoL {K : PySem.W.Frag} {op : D → D → Cells → Option (List D)} {σ : St} {H : Hp} {Q : VK} (h : dL K T EE (fun ρ => M.bind (fa ρ) fun x => M.bind (fb ρ) fun y => M.opt (op x y)) σ H Q) : tOp (rOL K T op) (dE K T EE fa) (dE K T EE fb) σ H Q := by
  refine (show dG K T EE (repE K T) fa σ H _ from ?_)
  obtain ⟨γ, hid, S, ρ, hold, env, h⟩ := h
  obtain ⟨_, _, _, _, h1, h2, h3⟩ := bindR (rep := repE K T) hold env h
  refine ⟨_, _, _, _, h1, h2, h3.imp fun x H1 ⟨d1, γ1, S1, q1, q2, q3, q4, q5⟩ => ?_⟩
  obtain ⟨_, _, _, _, h1, h2, h3⟩ := bindR (rep := repE K T) q1 q3 q5
  refine ⟨_, _, _, _, h1, h2, h3.imp fun y H2 ⟨d2, γ2, S2, w1, w2, w3, w4, w5⟩ => ?_⟩
  obtain ⟨d, e, w5⟩ := opt_ok w5
  exact ⟨γ2, hid, S2, d1, d2, d, w1, w2.rp q4, w4, e, fun γ' H' vs c1 c2 z c3 => w5 γ' H' vs c1 c2 ⟨z, c3⟩⟩
theorem ev_bin {o : Operator} {op : D → D → Cells → Option D} (ho : OpR X (binaryOp o) (rO X.K T op)) (ha : EvE X T EE a fa) (hb : EvE X T EE b fb) : EvE X T EE (.BinOp a o b pos) (fun ρ => M.bind (fa ρ) fun x => M.bind (fb ρ) fun y => M.opt (op x y)) :=
  ⟨(pe_op ho ha.pe hb.pe).dimp fun σ H Q h => two h⟩
theorem evL_bin {o : Operator} {op : D → D → Cells → Option (List D)} (ho : OpR X (binaryOp o) (rOL X.K T op)) (ha : EvE X T EE a fa) (hb : EvE X T EE b fb) : EvL X T EE (.BinOp a o b pos) (fun ρ => M.bind (fa ρ) fun x => M.bind (fb ρ) fun y => M.opt (op x y)) :=
  ⟨(pe_op ho ha.pe hb.pe).dimp fun σ H Q h => twoL h⟩
theorem ev_cmp {o : CmpOp} {op : D → D → Cells → Option D} (ho : OpR X (compareOp o) (rO X.K T op)) (hm : behindInMarks o b = false) (ha : EvE X T EE a fa) (hb : EvE X T EE b fb) : EvE X T EE (.Compare a [o] [b] pos) (fun ρ => M.bind (fa ρ) fun x => M.bind (fb ρ) fun y => M.opt (op x y)) :=
  ⟨(pe_cmpR ho ha.pe hb.pe hm).dimp fun σ H Q h => two h⟩
def rU (K : PySem.W.Frag) (T : Tab) (op : D → Cells → Option D) : V → Hp → VK → Prop := fun x H Q => ∃ γ hid S d1 d, Hold K T γ hid S H ∧ Rp K T γ (out γ S hid H) d1 x ∧ op d1 S = some d ∧ okV K T γ hid S H d S Q
theorem one {K : PySem.W.Frag} {op : D → Cells → Option D} {σ : St} {H : Hp} {Q : VK} (h : dE K T EE (fun ρ => M.bind (fa ρ) fun x => M.opt (op x)) σ H Q) : tUn (rU K T op) (dE K T EE fa) σ H Q := by
  refine (show dG K T EE (repE K T) fa σ H _ from ?_)
  obtain ⟨_, _, _, _, h1, h2, h3⟩ := bindD (rep := repE K T) h
  refine ⟨_, _, _, _, h1, h2, h3.imp fun x H1 ⟨d1, γ1, hid, S1, ρ, q1, q3, q4, q5⟩ => ?_⟩
  obtain ⟨d, e, w5⟩ := opt_ok q5
  exact ⟨γ1, hid, S1, d1, d, q1, q4, e, w5⟩
theorem ev_un {o : UnaryOp} {op : D → Cells → Option D} (ho : UnR X (unaryOp o) (rU X.K T op)) (ha : EvE X T EE a fa) : EvE X T EE (.UnaryOp o a pos) (fun ρ => M.bind (fa ρ) fun x => M.opt (op x)) :=
  ⟨(pe_un ho ha.pe).dimp fun σ H Q h => one h⟩

/-! ### tests -/
/-- a value's truth -/
def truD : D → Cells → Option Bool
  | .non, _ => some false
  | .bl b, _ => some b
  | .int i, _ => some (i != 0)
  | .str y, _ => some ((y.length : Int) != 0)
  | .tup l, _ => some (!l.isEmpty)
  | .lst l, _ => some (!l.isEmpty)
  | .ref n, S => match S[n]? with
    | some ⟨_, .lst l⟩ => some (!l.isEmpty)
    | _ => none
  | .obj _ _, _ => none
theorem isEmpty_rep {K : PySem.W.Frag} {γ : List Addr} {F : Hp} {ds : List D} {vs : List V} (h : RpL K T γ F ds vs) : (!ds.isEmpty) = !vs.isEmpty := by
  cases h <;> rfl
/-- a cell that is a list -/
theorem Hold.list {K : PySem.W.Frag} {γ hid : List Addr} {S : Cells} {H : Hp} (h : Hold K T γ hid S H) {n : Nat} {a : Addr} {b : Bool} {l : List D} (e : γ[n]? = some a) (q : S[n]? = some ⟨b, .lst l⟩) : ∃ vs, H a = some (.lst vs) ∧ l.length ≤ sizeLine ∧ RpL K T [] (out γ S hid H) l vs := by
  obtain ⟨o, h1, h2⟩ := h.cell n a _ e q
  cases h2 with
  | lst z r => exact ⟨_, h1, z, r⟩
theorem truD_ok {K : PySem.W.Frag} {γ hid : List Addr} {S : Cells} {H : Hp} {d : D} {v : V} {k : Bool} (h : Hold K T γ hid S H) (r : Rp K T γ (out γ S hid H) d v) (e : truD d S = some k) : TruV K v H k := by
  cases r with
  | non => cases e; rfl
  | bl b => cases e; rfl
  | int i => cases e; rfl
  | str x z =>
    cases e
    exact ⟨z, rfl⟩
  | lst a z b =>
    cases e
    exact .inl ⟨_, (out_sub _ _ _ _).seq a, isEmpty_rep b⟩
  | tup a z b =>
    cases e
    exact .inr (.inl ⟨_, same_seqT (out_sub _ _ _ _) a, isEmpty_rep b⟩)
  | ref a =>
    rename_i n _
    have e : (match S[n]? with
      | some ⟨_, .lst l⟩ => some (!l.isEmpty)
      | _ => none) = some k := e
    split at e
    · rename_i q
      cases e
      obtain ⟨vs, h1, _, h2⟩ := h.list a q
      exact .inl ⟨_, SqL.of h1, isEmpty_rep h2⟩
    · cases e
  | obj a b c => cases e
theorem ev_truth (ha : EvE X T EE a fa) (he : ∀ whole, isTrue a X.env whole = (do let v ← whole; standAt a.pos; holding [v] (truthy v))) : EvT X T EE a (fun ρ => M.bind (fa ρ) fun x => M.opt (truD x)) := by
  refine ⟨(pt_truth ha.pe he).dimp fun σ H Q h => ?_⟩
  refine (show dG X.K T EE (repE X.K T) fa σ H _ from ?_)
  obtain ⟨_, _, _, _, h1, h2, h3⟩ := bindD (rep := repE X.K T) h
  refine ⟨_, _, _, _, h1, h2, h3.imp fun x H1 ⟨d1, γ1, hid, S1, ρ, q1, q3, q4, q5⟩ => ?_⟩
  obtain ⟨d, e, w5⟩ := opt_ok q5
  exact ⟨d, truD_ok q1 q4 e, w5 γ1 H1 d q1 (Ext.refl _ _ _) rfl⟩
def asB : D → Option Bool
  | .bl b => some b
  | _ => none
theorem asB_ok {K : PySem.W.Frag} {γ : List Addr} {F : Hp} {d : D} {v : V} {k : Bool} (r : Rp K T γ F d v) (e : asB d = some k) : d = .bl k ∧ v = .bl k := by
  cases r <;> cases e
  exact ⟨rfl, rfl⟩
/-- a comparison as a test -/
theorem ev_cmpT {o : CmpOp} {op : D → D → Cells → Option D} (ho : OpR X (compareOp o) (rO X.K T op)) (hm : behindInMarks o b = false) (ha : EvE X T EE a fa) (hb : EvE X T EE b fb) :
    EvT X T EE (.Compare a [o] [b] pos) (fun ρ => M.bind (fa ρ) fun x => M.bind (fb ρ) fun y => M.opt (fun S => (op x y S).bind asB)) := by
  refine ⟨(pt_cmpR ho ha.pe hb.pe hm).dimp fun σ H Q h => ?_⟩
  refine (show dG X.K T EE (repE X.K T) fa σ H _ from ?_)
  obtain ⟨γ, hid, S, ρ, hold, env, h⟩ := h
  obtain ⟨_, _, _, _, h1, h2, h3⟩ := bindR (rep := repE X.K T) hold env h
  refine ⟨_, _, _, _, h1, h2, h3.imp fun x H1 ⟨d1, γ1, S1, q1, q2, q3, q4, q5⟩ => ?_⟩
  obtain ⟨_, _, _, _, h1, h2, h3⟩ := bindR (rep := repE X.K T) q1 q3 q5
  refine ⟨_, _, _, _, h1, h2, h3.imp fun y H2 ⟨d2, γ2, S2, w1, w2, w3, w4, w5⟩ => ?_⟩
  obtain ⟨k, e, w5⟩ := opt_ok w5
  cases q : op d1 d2 S2 with
  | none =>
    rw [q] at e
    cases e
  | some d =>
    rw [q] at e
    have e' : asB d = some k := e
    refine ⟨γ2, hid, S2, d1, d2, d, w1, w2.rp q4, w4, q, fun γ' H' v c1 c2 c3 => ?_⟩
    cases c3 with
    | bl b =>
      cases e'
      exact ⟨_, rfl, w5 γ' H' _ c1 c2 rfl⟩
    | _ => cases e'
/-- a < b < c -/
theorem ev_chainT {c : Expr} {fc : En → M D} {o o' : CmpOp} {op op' : D → D → Cells → Option D} (ho : OpR X (compareOp o) (rO X.K T op)) (ho' : OpR X (compareOp o') (rO X.K T op')) (ha : EvE X T EE a fa) (hb : EvE X T EE b fb) (hc : EvE X T EE c fc) (hm : lastMarks [o, o'] [b, c] = false := by rfl) :
    EvE X T EE (.Compare a [o, o'] [b, c] pos) (fun ρ => M.bind (fa ρ) fun x => M.bind (fb ρ) fun y => M.bind (M.opt (fun S => (op x y S).bind asB)) fun k => if k = true then (M.bind (fc ρ) fun z => M.opt (op' y z)) else kon (.bl false)) := by
  refine ⟨(pe_chain ho ho' ha.pe hb.pe hc.pe hm).dimp fun σ H Q h => ?_⟩
  refine (show dG X.K T EE (repE X.K T) fa σ H _ from ?_)
  obtain ⟨γ, hid, S, ρ, hold, env, h⟩ := h
  obtain ⟨_, _, _, _, h1, h2, h3⟩ := bindR (rep := repE X.K T) hold env h
  refine ⟨_, _, _, _, h1, h2, h3.imp fun x H1 ⟨d1, γ1, S1, q1, q2, q3, q4, q5⟩ => ?_⟩
  obtain ⟨_, _, _, _, h1, h2, h3⟩ := bindR (rep := repE X.K T) q1 q3 q5
  refine ⟨_, _, _, _, h1, h2, h3.imp fun y H2 ⟨d2, γ2, S2, w1, w2, w3, w4, w5⟩ => ?_⟩
  cases q : op d1 d2 S2 with
  | none =>
    rw [bind_of_stuck (opt_none (by rw [q]; rfl))] at w5
    exact w5.elim
  | some d =>
    cases q2 : asB d with
    | none =>
      rw [bind_of_stuck (opt_none (by rw [q]; exact q2))] at w5
      exact w5.elim
    | some k =>
      rw [bind_of_ok (opt_some (a := k) (by rw [q]; exact q2))] at w5
      refine ⟨γ2, hid, S2, d1, d2, d, w1, w2.rp q4, w4, q, fun γ' H' v c1 c2 c3 => ?_⟩
      obtain ⟨rfl, rfl⟩ := asB_ok c3 q2
      refine ⟨k, rfl, ?_⟩
      have env3 := w3.mono c2.pre (c2.sameH hid)
      have w6 := w5.base c2
      cases hk : k with
      | true =>
        rw [if_pos hk] at w6
        rw [if_pos rfl]
        obtain ⟨_, _, _, _, h1, h2, h3⟩ := bindR (rep := repE X.K T) (f := fc) c1 env3 w6
        refine ⟨_, _, _, _, h1, h2, h3.imp fun z H3 ⟨d3, γ3, S3, u1, u2, u3, u4, u5⟩ => ?_⟩
        obtain ⟨d', e, u5⟩ := opt_ok u5
        exact ⟨γ3, hid, S3, d2, d3, d', u1, u2.rp (c2.rp w4), u4, e, u5⟩
      | false =>
        rw [if_neg (by rw [hk]; exact Bool.false_ne_true)] at w6
        rw [if_neg Bool.false_ne_true]
        exact w6 γ' H' _ c1 (Ext.refl _ _ _) (.bl _)
/-- a value that is True or False, as a test -/
theorem ev_val (ha : EvE X T EE a fa) (he : ∀ whole, isTrue a X.env whole = (do let v ← whole; standAt a.pos; holding [v] (truthy v)) := by intro _; rfl) : EvT X T EE a (fun ρ => M.bind (fa ρ) fun x => M.opt (truD x)) := ev_truth ha he

/-! ### and, or, not as tests -/
variable {ta tb : En → M Bool} {rest : List Expr}
theorem evw_and1 (ha : EvT X T EE a ta) : EvW X T EE (.BoolOp .And [a] pos) ta := ⟨pw_and1 ha.pt⟩
theorem evw_or1 (ha : EvT X T EE a ta) : EvW X T EE (.BoolOp .Or [a] pos) ta := ⟨pw_or1 ha.pt⟩
def andM (x : M Bool) (y : M Bool) : M Bool := M.bind (x) fun c => if c = true then y else fun S => .ok false S
def orM (x : M Bool) (y : M Bool) : M Bool := M.bind (x) fun c => if c = true then fun S => .ok true S else y
theorem evw_and (ha : EvT X T EE a ta) (hb : EvW X T EE (.BoolOp .And (b :: rest) pos) tb) : EvW X T EE (.BoolOp .And (a :: b :: rest) pos) (fun ρ => andM (ta ρ) (tb ρ)) := by
  refine ⟨(pw_and ha.pt hb.pw).dimp fun σ H Q h => ?_⟩
  refine (show dG X.K T EE repB ta σ H _ from ?_)
  obtain ⟨_, _, _, _, h1, h2, h3⟩ := bindD (rep := repB) h
  refine ⟨_, _, _, _, h1, h2, h3.imp fun c H1 ⟨k, γ1, hid, S1, ρ, q1, q3, q4, q5⟩ => ?_⟩
  have q4' : k = c := q4
  subst q4'
  cases k with
  | true =>
    rw [if_pos rfl] at q5
    rw [if_pos rfl]
    exact ⟨γ1, hid, S1, ρ, q1, q3, q5⟩
  | false => exact q5 γ1 H1 false q1 (Ext.refl _ _ _) rfl
theorem evw_or (ha : EvT X T EE a ta) (hb : EvW X T EE (.BoolOp .Or (b :: rest) pos) tb) : EvW X T EE (.BoolOp .Or (a :: b :: rest) pos) (fun ρ => orM (ta ρ) (tb ρ)) := by
  refine ⟨(pw_or ha.pt hb.pw).dimp fun σ H Q h => ?_⟩
  refine (show dG X.K T EE repB ta σ H _ from ?_)
  obtain ⟨_, _, _, _, h1, h2, h3⟩ := bindD (rep := repB) h
  refine ⟨_, _, _, _, h1, h2, h3.imp fun c H1 ⟨k, γ1, hid, S1, ρ, q1, q3, q4, q5⟩ => ?_⟩
  have q4' : k = c := q4
  subst q4'
  cases k with
  | false =>
    rw [if_neg Bool.false_ne_true] at q5
    rw [if_neg Bool.false_ne_true]
    exact ⟨γ1, hid, S1, ρ, q1, q3, q5⟩
  | true => exact q5 γ1 H1 true q1 (Ext.refl _ _ _) rfl
theorem evt_of (h : EvW X T EE a ta) : EvT X T EE a ta := ⟨h.pw.pt⟩
theorem evt_not (ha : EvT X T EE a ta) : EvT X T EE (.UnaryOp .Not a pos) (fun ρ => M.bind (ta ρ) fun c S => .ok (!c) S) := by
  refine ⟨(pt_not ha.pt).dimp fun σ H Q h => ?_⟩
  refine (show dG X.K T EE repB ta σ H _ from ?_)
  obtain ⟨_, _, _, _, h1, h2, h3⟩ := bindD (rep := repB) h
  refine ⟨_, _, _, _, h1, h2, h3.imp fun c H1 ⟨k, γ1, hid, S1, ρ, q1, q3, q4, q5⟩ => ?_⟩
  have q4' : k = c := q4
  subst q4'
  exact q5 γ1 H1 _ q1 (Ext.refl _ _ _) rfl
/-- .. as values -/
theorem ev_one {op : BoolOp} (h : EvE X T EE a fa) : EvE X T EE (.BoolOp op [a] pos) fa := ⟨pe_one h.pe⟩
def andE (x : M D) (y : M D) : M D := M.bind (x) fun d => M.bind (M.opt (fun _ => asB d)) fun c => if c = true then y else kon (.bl false)
def orE (x : M D) (y : M D) : M D := M.bind (x) fun d => M.bind (M.opt (fun _ => asB d)) fun c => if c = true then kon (.bl true) else y
theorem optB {K : PySem.W.Frag} {α β : Type} {rep : List Addr → Hp → α → β → Prop} {γ hid : List Addr} {S : Cells} {H : Hp} {ρ : En} {σ : St} {Q : β → Hp → Prop} {d : D} {g : Bool → M α} (h : resG K T EE rep γ hid S H ρ σ ((M.bind (M.opt (fun _ => asB d)) g) S) Q) : ∃ k, asB d = some k ∧ resG K T EE rep γ hid S H ρ σ (g k S) Q := by
  cases q : asB d with
  | none =>
    unfold M.opt M.bind at h
    simp only [q] at h
    exact h.elim
  | some k =>
    unfold M.opt M.bind at h
    simp only [q] at h
    exact ⟨k, rfl, h⟩
theorem ev_and (ha : EvE X T EE a fa) (hb : EvE X T EE (.BoolOp .And (b :: rest) pos) fb) : EvE X T EE (.BoolOp .And (a :: b :: rest) pos) (fun ρ => andE (fa ρ) (fb ρ)) := by
  refine ⟨(pe_and ha.pe hb.pe).dimp fun σ H Q h => ?_⟩
  refine (show dG X.K T EE (repE X.K T) fa σ H _ from ?_)
  obtain ⟨_, _, _, _, h1, h2, h3⟩ := bindD (rep := repE X.K T) h
  refine ⟨_, _, _, _, h1, h2, h3.imp fun c H1 ⟨d, γ1, hid, S1, ρ, q1, q3, q4, q5⟩ => ?_⟩
  obtain ⟨k, e, q6⟩ := optB q5
  clear q5
  obtain ⟨rfl, rfl⟩ := asB_ok q4 e
  refine ⟨k, rfl, ?_⟩
  cases k with
  | true =>
    rw [if_pos rfl] at q6
    rw [if_pos rfl]
    exact ⟨γ1, hid, S1, ρ, q1, q3, q6⟩
  | false => exact q6 γ1 H1 _ q1 (Ext.refl _ _ _) (.bl _)
theorem ev_or (ha : EvE X T EE a fa) (hb : EvE X T EE (.BoolOp .Or (b :: rest) pos) fb) : EvE X T EE (.BoolOp .Or (a :: b :: rest) pos) (fun ρ => orE (fa ρ) (fb ρ)) := by
  refine ⟨(pe_or ha.pe hb.pe).dimp fun σ H Q h => ?_⟩
  refine (show dG X.K T EE (repE X.K T) fa σ H _ from ?_)
  obtain ⟨_, _, _, _, h1, h2, h3⟩ := bindD (rep := repE X.K T) h
  refine ⟨_, _, _, _, h1, h2, h3.imp fun c H1 ⟨d, γ1, hid, S1, ρ, q1, q3, q4, q5⟩ => ?_⟩
  obtain ⟨k, e, q6⟩ := optB q5
  clear q5
  obtain ⟨rfl, rfl⟩ := asB_ok q4 e
  refine ⟨k, rfl, ?_⟩
  cases k with
  | false =>
    rw [if_neg Bool.false_ne_true] at q6
    rw [if_neg Bool.false_ne_true]
    exact ⟨γ1, hid, S1, ρ, q1, q3, q6⟩
  | true => exact q6 γ1 H1 _ q1 (Ext.refl _ _ _) (.bl _)
theorem ev_not (ha : EvE X T EE a fa) : EvE X T EE (.UnaryOp .Not a pos) (fun ρ => M.bind (fa ρ) fun d => M.bind (M.opt (fun _ => asB d)) fun c => kon (.bl (!c))) := by
  refine ⟨(pe_not ha.pe).dimp fun σ H Q h => ?_⟩
  refine (show dG X.K T EE (repE X.K T) fa σ H _ from ?_)
  obtain ⟨_, _, _, _, h1, h2, h3⟩ := bindD (rep := repE X.K T) h
  refine ⟨_, _, _, _, h1, h2, h3.imp fun c H1 ⟨d, γ1, hid, S1, ρ, q1, q3, q4, q5⟩ => ?_⟩
  obtain ⟨k, e, q6⟩ := optB q5
  clear q5
  obtain ⟨rfl, rfl⟩ := asB_ok q4 e
  exact ⟨k, rfl, q6 γ1 H1 _ q1 (Ext.refl _ _ _) (.bl _)⟩
theorem ev_ifExp {c : Expr} (hc : EvT X T EE c ta) (ha : EvE X T EE a fa) (hb : EvE X T EE b fb) : EvE X T EE (.IfExp c a b pos) (fun ρ => M.bind (ta ρ) fun k => if k = true then fa ρ else fb ρ) := by
  refine ⟨(pe_ifExp hc.pt ha.pe hb.pe).dimp fun σ H Q h => ?_⟩
  refine (show dG X.K T EE repB ta σ H _ from ?_)
  obtain ⟨_, _, _, _, h1, h2, h3⟩ := bindD (rep := repB) h
  refine ⟨_, _, _, _, h1, h2, h3.imp fun c H1 ⟨k, γ1, hid, S1, ρ, q1, q3, q4, q5⟩ => ?_⟩
  have q4' : k = c := q4
  subst q4'
  cases k with
  | true =>
    rw [if_pos rfl] at q5
    rw [if_pos rfl]
    exact ⟨γ1, hid, S1, ρ, q1, q3, q5⟩
  | false =>
    rw [if_neg Bool.false_ne_true] at q5
    rw [if_neg Bool.false_ne_true]
    exact ⟨γ1, hid, S1, ρ, q1, q3, q5⟩
theorem evL_ifExp {c : Expr} {la lb : En → M (List D)} (hc : EvT X T EE c ta) (ha : EvL X T EE a la) (hb : EvL X T EE b lb) : EvL X T EE (.IfExp c a b pos) (fun ρ => M.bind (ta ρ) fun k => if k = true then la ρ else lb ρ) := by
  refine ⟨(pe_ifExp hc.pt ha.pe hb.pe).dimp fun σ H Q h => ?_⟩
  refine (show dG X.K T EE repB ta σ H _ from ?_)
  obtain ⟨_, _, _, _, h1, h2, h3⟩ := bindD (rep := repB) h
  refine ⟨_, _, _, _, h1, h2, h3.imp fun c H1 ⟨k, γ1, hid, S1, ρ, q1, q3, q4, q5⟩ => ?_⟩
  have q4' : k = c := q4
  subst q4'
  cases k with
  | true =>
    rw [if_pos rfl] at q5
    rw [if_pos rfl]
    exact ⟨γ1, hid, S1, ρ, q1, q3, q5⟩
  | false =>
    rw [if_neg Bool.false_ne_true] at q5
    rw [if_neg Bool.false_ne_true]
    exact ⟨γ1, hid, S1, ρ, q1, q3, q5⟩

/-! ### arguments, tuples, lists -/
theorem ea_nil : EvA X T EE [] (fun _ S => .ok [] S) := ⟨pa_nil.dimp fun σ H Q h => by
  obtain ⟨γ, hid, S, ρ, hold, env, h⟩ := h
  exact h γ H [] hold (Ext.refl _ _ _) .nil⟩
def consM (x : M D) (y : M (List D)) : M (List D) := M.bind (x) fun d => M.bind (y) fun l S => .ok (d :: l) S
theorem ea_cons (ha : EvE X T EE e f) (hr : EvA X T EE es fs) (hs : starEach (e :: es) X.env = (false, eval e X.env) :: starEach es X.env := by rfl) : EvA X T EE (e :: es) (fun ρ => consM (f ρ) (fs ρ)) := by
  refine ⟨(pa_cons ha.pe hr.pa hs).dimp fun σ H Q h => ?_⟩
  refine (show dG X.K T EE (repE X.K T) f σ H _ from ?_)
  obtain ⟨γ, hid, S, ρ, hold, env, h⟩ := h
  obtain ⟨_, _, _, _, h1, h2, h3⟩ := bindR (rep := repE X.K T) hold env h
  refine ⟨_, _, _, _, h1, h2, h3.imp fun x H1 ⟨d1, γ1, S1, q1, q2, q3, q4, q5⟩ => ?_⟩
  obtain ⟨_, _, _, _, h1, h2, h3⟩ := bindR (rep := repA X.K T) q1 q3 q5
  refine ⟨_, _, _, _, h1, h2, h3.imp fun y H2 ⟨d2, γ2, S2, w1, w2, w3, w4, w5⟩ => ?_⟩
  exact w5 γ2 H2 _ w1 (Ext.refl _ _ _) (.cons (w2.rp q4) w4)
/-- a tuple, few items -/
theorem ev_tup {x1 : Nat} (h : EvA X T EE es fs) : EvE X T EE (.Tuple es x1 pos) (fun ρ => M.bind (fs ρ) fun l => M.opt fun _ => if l.length ≤ sizeLine then some (.tup l) else none) := by
  refine ⟨(pe_tup h.pa).dimp fun σ H Q h => ?_⟩
  refine (show dG X.K T EE (repA X.K T) fs σ H _ from ?_)
  obtain ⟨_, _, _, _, h1, h2, h3⟩ := bindD (rep := repA X.K T) h
  refine ⟨_, _, _, _, h1, h2, h3.imp fun vs H1 ⟨l, γ1, hid, S1, ρ, q1, q3, q4, q5⟩ => ?_⟩
  obtain ⟨d, e, w5⟩ := opt_ok q5
  split at e
  · cases e
    refine ⟨by rw [← q4.length]; assumption, fun p np => ?_⟩
    obtain ⟨a1, a2, a3⟩ := q1.lay np (.tup vs)
    exact w5 γ1 _ _ a1 a2 (.tup (SqT.of (a3 hid (q1.fresh np).2)) (by assumption) (a2.rpl q4))
  · cases e
theorem evL_lst (h : EvA X T EE es fs) : EvL X T EE (.List es pos) (fun ρ => M.bind (fs ρ) fun l => M.opt fun _ => if l.length ≤ sizeLine then some l else none) := by
  refine ⟨(pe_lst h.pa).dimp fun σ H Q h => ?_⟩
  refine (show dG X.K T EE (repA X.K T) fs σ H _ from ?_)
  obtain ⟨_, _, _, _, h1, h2, h3⟩ := bindD (rep := repA X.K T) h
  refine ⟨_, _, _, _, h1, h2, h3.imp fun vs H1 ⟨l, γ1, hid, S1, ρ, q1, q3, q4, q5⟩ => ?_⟩
  obtain ⟨d, e, w5⟩ := opt_ok q5
  split at e
  · cases e
    refine ⟨by rw [← q4.length]; assumption, fun p np => ?_⟩
    exact w5 γ1 H1 vs q1 (Ext.refl _ _ _) ⟨by assumption, q4⟩ p np
  · cases e
/-- a new list, frozen -/
theorem ev_frz {fl : En → M (List D)} (h : EvL X T EE e fl) : EvE X T EE e (fun ρ => M.bind (fl ρ) fun l => kon (.lst l)) := by
  refine ⟨h.pe.dimp fun σ H Q h => ?_⟩
  refine (show dG X.K T EE (repL X.K T) fl σ H _ from ?_)
  obtain ⟨_, _, _, _, h1, h2, h3⟩ := bindD (rep := repL X.K T) h
  refine ⟨_, _, _, _, h1, h2, h3.imp fun vs H1 ⟨l, γ1, hid, S1, ρ, q1, q3, q4, q5⟩ p np => ?_⟩
  obtain ⟨a1, a2, a3⟩ := q1.lay np (.lst vs)
  exact q5 γ1 _ _ a1 a2 (.lst (SqL.of (a3 hid (q1.fresh np).2)) q4.1 (a2.rpl q4.2))
/-- a new list, a cell -/
def newC (l : List D) : M D := M.chg fun S => if flatL l = true then some (.ref S.length, S ++ [⟨true, .lst l⟩]) else none
theorem ev_cell {fl : En → M (List D)} (h : EvL X T EE e fl) : EvE X T EE e (fun ρ => M.bind (fl ρ) newC) := by
  refine ⟨h.pe.dimp fun σ H Q h => ?_⟩
  refine (show dG X.K T EE (repL X.K T) fl σ H _ from ?_)
  obtain ⟨_, _, _, _, h1, h2, h3⟩ := bindD (rep := repL X.K T) h
  refine ⟨_, _, _, _, h1, h2, h3.imp fun vs H1 ⟨l, γ1, hid, S1, ρ, q1, q3, q4, q5⟩ p np => ?_⟩
  unfold newC M.chg at q5
  by_cases fl : flatL l = true
  · simp only [if_pos fl] at q5
    obtain ⟨a1, a2⟩ := q1.newCell np (.lst q4.1 (RpL.toflat _ _ fl q4.2))
    refine q5 _ _ _ a1 a2 (.ref ?_)
    rw [← q1.len, List.getElem?_append_right (Nat.le_refl _), Nat.sub_self]
    rfl
  · simp only [if_neg fl] at q5
    exact q5.elim
/-- a cell that is read from now on -/
def fzM (d : D) : M D := M.chg fun S => match d with
  | .ref n => match S[n]? with
    | some ⟨_, .lst l⟩ => some (.lst l, S.set n ⟨false, .lst l⟩)
    | _ => none
  | d => some (d, S)
theorem Hold.fz {K : PySem.W.Frag} {γ hid : List Addr} {S S' : Cells} {H : Hp} {d d' : D} {v : V} (h : Hold K T γ hid S H) (r : Rp K T γ (out γ S hid H) d v) (e : fzM d S = .ok d' S') : Hold K T γ hid S' H ∧ Ext γ S H γ S' H ∧ Rp K T γ (out γ S' hid H) d' v := by
  unfold fzM M.chg at e
  cases r with
  | ref a =>
    rename_i n a'
    cases q : S[n]? with
    | none => simp [q] at e
    | some c =>
      obtain ⟨b, c⟩ := c
      cases c with
      | lst l =>
        simp only [q] at e
        cases e
        obtain ⟨a1, a2⟩ := h.freeze q
        obtain ⟨vs, h1, z, h2⟩ := h.list a q
        refine ⟨a1, a2, .lst (SqL.of (out_some.mpr ⟨fun z => h.hidG _ z (List.mem_of_getElem? a), ?_, h1⟩)) z ((RpL.nil_any (a2.sameH hid) h2))⟩
        exact a1.live a (List.getElem?_set_self (List.getElem?_eq_some_iff.mp q).1)
      | ins k fs => simp [q] at e
  | non => cases e; exact ⟨h, Ext.refl _ _ _, .non⟩
  | bl b => cases e; exact ⟨h, Ext.refl _ _ _, .bl b⟩
  | int i => cases e; exact ⟨h, Ext.refl _ _ _, .int i⟩
  | str x z => cases e; exact ⟨h, Ext.refl _ _ _, .str x z⟩
  | lst a z b => cases e; exact ⟨h, Ext.refl _ _ _, .lst a z b⟩
  | tup a z b => cases e; exact ⟨h, Ext.refl _ _ _, .tup a z b⟩
  | obj a b c => cases e; exact ⟨h, Ext.refl _ _ _, .obj a b c⟩
theorem fzM_noerr {d : D} {S S' : Cells} {x : Xc} : fzM d S ≠ .err x S' := by
  unfold fzM M.chg
  split <;> simp
theorem ev_fz (h : EvE X T EE e f) : EvE X T EE e (fun ρ => M.bind (f ρ) fzM) := by
  refine ⟨h.pe.dimp fun σ H Q h => ?_⟩
  refine (show dG X.K T EE (repE X.K T) f σ H _ from ?_)
  obtain ⟨_, _, _, _, h1, h2, h3⟩ := bindD (rep := repE X.K T) h
  refine ⟨_, _, _, _, h1, h2, h3.imp fun v H1 ⟨d, γ1, hid, S1, ρ, q1, q3, q4, q5⟩ => ?_⟩
  cases q : fzM d S1 with
  | ok d' S' =>
    rw [q] at q5
    obtain ⟨a1, a2, a3⟩ := q1.fz q4 q
    exact q5 _ _ _ a1 a2 a3
  | err x S' => exact absurd q fzM_noerr
  | stuck =>
    rw [q] at q5
    exact q5.elim
end

/-! ### statements -/
inductive Out where
  | nx (ρ : En) (S : Cells) | rt (d : D) (S : Cells) | bk (ρ : En) (S : Cells) | ct (ρ : En) (S : Cells) | er (x : Xc) (ρ : En) (S : Cells) | stuck
abbrev SM := En → Cells → Out
section
variable (K : PySem.W.Frag) (T : Tab) (EE : XX)
def resS (γ hid : List Addr) (S : Cells) (H : Hp) (o : Out) (Dn : Ends) : Prop := match o with
  | .nx ρ' S' => ∀ (γ' : List Addr) (H' : Hp) (σ' : St), Hold K T γ' hid S' H' → Ext γ S H γ' S' H' → EnvR K T γ' (out γ' S' hid H') ρ' σ' → Dn.nx σ' H'
  | .rt d S' => ∀ (γ' : List Addr) (H' : Hp) (v : V), Hold K T γ' hid S' H' → Ext γ S H γ' S' H' → Rp K T γ' (out γ' S' hid H') d v → Dn.rt v H'
  | .bk ρ' S' => ∀ (γ' : List Addr) (H' : Hp) (σ' : St), Hold K T γ' hid S' H' → Ext γ S H γ' S' H' → EnvR K T γ' (out γ' S' hid H') ρ' σ' → Dn.bk σ' H'
  | .ct ρ' S' => ∀ (γ' : List Addr) (H' : Hp) (σ' : St), Hold K T γ' hid S' H' → Ext γ S H γ' S' H' → EnvR K T γ' (out γ' S' hid H') ρ' σ' → Dn.ct σ' H'
  | .er x ρ' S' => ∀ (γ' : List Addr) (H' : Hp) (σ' : St), Hold K T γ' hid S' H' → Ext γ S H γ' S' H' → EnvR K T γ' (out γ' S' hid H') ρ' σ' → EE x ρ' γ' hid S' H' σ'
  | .stuck => False
def dS (F : SM) : TS := fun Dn σ H => ∃ γ hid S ρ, Hold K T γ hid S H ∧ EnvR K T γ (out γ S hid H) ρ σ ∧ resS K T EE γ hid S H (F ρ S) Dn
end
structure EvS (X : Cx) (T : Tab) (EE : XX) (st : Stmt) (F : SM) : Prop where
  ps : PS X st (dS X.K T EE F)
structure EvSs (X : Cx) (T : Tab) (EE : XX) (st : List Stmt) (F : SM) : Prop where
  ps : PSs X st (dS X.K T EE F)
theorem _root_.L2.PS.dimp {X : Cx} {e : Stmt} {t t' : TS} (h : PS X e t) (i : ∀ Dn σ H, t' Dn σ H → t Dn σ H) : PS X e t' := ⟨fun pins s σ H Q I q => h.run pins s σ H Q I (i _ _ _ q)⟩
theorem _root_.L2.PSs.dimp {X : Cx} {e : List Stmt} {t t' : TS} (h : PSs X e t) (i : ∀ Dn σ H, t' Dn σ H → t Dn σ H) : PSs X e t' := ⟨fun pins s σ H Q I q => h.run pins s σ H Q I (i _ _ _ q)⟩
section
variable {K : PySem.W.Frag} {T : Tab} {EE : XX}
theorem resS.base {γ γ1 hid : List Addr} {S S1 : Cells} {H H1 : Hp} {o : Out} {Dn : Ends} (h : resS K T EE γ hid S H o Dn) (e : Ext γ S H γ1 S1 H1) : resS K T EE γ1 hid S1 H1 o Dn := by
  cases o with
  | nx ρ S' => exact fun γ' H' σ' a1 a2 a3 => h γ' H' σ' a1 (e.trans a2) a3
  | rt d S' => exact fun γ' H' σ' a1 a2 a3 => h γ' H' σ' a1 (e.trans a2) a3
  | bk ρ S' => exact fun γ' H' σ' a1 a2 a3 => h γ' H' σ' a1 (e.trans a2) a3
  | ct ρ S' => exact fun γ' H' σ' a1 a2 a3 => h γ' H' σ' a1 (e.trans a2) a3
  | er x ρ S' => exact fun γ' H' σ' a1 a2 a3 => h γ' H' σ' a1 (e.trans a2) a3
  | stuck => exact h
def bindS {α : Type} (f : En → M α) (g : α → SM) : SM := fun ρ S => match f ρ S with
  | .ok a S' => g a ρ S'
  | .err x S' => .er x ρ S'
  | .stuck => .stuck
/-- an expression at a statement's start -/
theorem bindSR {α β : Type} {rep : List Addr → Hp → α → β → Prop} {γ hid : List Addr} {S : Cells} {H : Hp} {ρ : En} {σ : St} {Dn : Ends} {f : En → M α} {g : α → SM}
    (hold : Hold K T γ hid S H) (env : EnvR K T γ (out γ S hid H) ρ σ) (h : resS K T EE γ hid S H (bindS f g ρ S) Dn) :
    dG K T EE rep f σ H fun b H1 => ∃ a γ1 S1, Hold K T γ1 hid S1 H1 ∧ Ext γ S H γ1 S1 H1 ∧ EnvR K T γ1 (out γ1 S1 hid H1) ρ σ ∧ rep γ1 (out γ1 S1 hid H1) a b ∧ resS K T EE γ1 hid S1 H1 (g a ρ S1) Dn := by
  refine ⟨γ, hid, S, ρ, hold, env, ?_⟩
  unfold bindS at h
  cases q : f ρ S with
  | ok a S1 =>
    rw [q] at h
    exact fun γ1 H1 b a1 a2 a3 => ⟨a, γ1, S1, a1, a2, env.mono a2.pre (a2.sameH hid), a3, h.base a2⟩
  | err x S1 =>
    rw [q] at h
    exact fun γ' H' a1 a2 => h γ' H' σ a1 a2 (env.mono a2.pre (a2.sameH hid))
  | stuck =>
    rw [q] at h
    exact h
theorem bindSD {α β : Type} {rep : List Addr → Hp → α → β → Prop} {σ : St} {H : Hp} {Dn : Ends} {f : En → M α} {g : α → SM} (h : dS K T EE (bindS f g) Dn σ H) :
    dG K T EE rep f σ H fun b H1 => ∃ a γ1 hid S1 ρ, Hold K T γ1 hid S1 H1 ∧ EnvR K T γ1 (out γ1 S1 hid H1) ρ σ ∧ rep γ1 (out γ1 S1 hid H1) a b ∧ resS K T EE γ1 hid S1 H1 (g a ρ S1) Dn := by
  obtain ⟨γ, hid, S, ρ, hold, env, h⟩ := h
  obtain ⟨_, _, _, _, h1, h2, h3⟩ := bindSR (rep := rep) hold env h
  exact ⟨_, _, _, _, h1, h2, h3.imp fun b H1 ⟨a, γ1, S1, q1, q2, q3, q4, q5⟩ => ⟨a, γ1, hid, S1, ρ, q1, q3, q4, q5⟩⟩
end
section
variable {X : Cx} {T : Tab} {EE : XX} {a b e : Expr} {st : Stmt} {rest : List Stmt} {f : En → M D} {F G : SM} {pos : Pos}
def nxS : SM := fun ρ S => .nx ρ S
def seqS (F G : SM) : SM := fun ρ S => match F ρ S with
  | .nx ρ' S' => G ρ' S'
  | o => o
theorem es_nil : EvSs X T EE [] nxS := ⟨pss_nil.dimp fun Dn σ H h => by
  obtain ⟨γ, hid, S, ρ, hold, env, h⟩ := h
  exact h γ H σ hold (Ext.refl _ _ _) env⟩
theorem es_cons (h1 : EvS X T EE st F) (h2 : EvSs X T EE rest G) : EvSs X T EE (st :: rest) (seqS F G) := by
  refine ⟨(pss_cons h1.ps h2.ps).dimp fun Dn σ H h => ?_⟩
  obtain ⟨γ, hid, S, ρ, hold, env, h⟩ := h
  refine ⟨γ, hid, S, ρ, hold, env, ?_⟩
  unfold seqS at h
  cases q : F ρ S with
  | nx ρ' S' =>
    rw [q] at h
    exact fun γ' H' σ' a1 a2 a3 => ⟨γ', hid, S', ρ', a1, a3, h.base a2⟩
  | rt d S' => rw [q] at h; exact h
  | bk ρ S' => rw [q] at h; exact h
  | ct ρ S' => rw [q] at h; exact h
  | er x ρ S' => rw [q] at h; exact h
  | stuck => rw [q] at h; exact h
theorem es_one (h1 : EvS X T EE st F) : EvSs X T EE [st] F := ⟨pss_one h1.ps⟩
theorem es_pass : EvS X T EE (.Pass pos) nxS := ⟨ps_pass.dimp fun Dn σ H h => by
  obtain ⟨γ, hid, S, ρ, hold, env, h⟩ := h
  exact h γ H σ hold (Ext.refl _ _ _) env⟩
theorem es_break : EvS X T EE (.Break pos) (fun ρ S => .bk ρ S) := ⟨ps_break.dimp fun Dn σ H h => by
  obtain ⟨γ, hid, S, ρ, hold, env, h⟩ := h
  exact h γ H σ hold (Ext.refl _ _ _) env⟩
theorem es_continue : EvS X T EE (.Continue pos) (fun ρ S => .ct ρ S) := ⟨ps_continue.dimp fun Dn σ H h => by
  obtain ⟨γ, hid, S, ρ, hold, env, h⟩ := h
  exact h γ H σ hold (Ext.refl _ _ _) env⟩
theorem es_never : EvS X T EE st (fun _ _ => .stuck) := ⟨ps_never.dimp fun Dn σ H h => by
  obtain ⟨γ, hid, S, ρ, hold, env, h⟩ := h
  exact h⟩
theorem es_expr (he : EvE X T EE e f) (hs : swapsWith e none pos.line X.env = pure false := by rfl) : EvS X T EE (.Expr e pos) (bindS f fun _ => nxS) := by
  refine ⟨(ps_expr he.pe hs).dimp fun Dn σ H h => ?_⟩
  refine (show dG X.K T EE (repE X.K T) f σ H _ from ?_)
  obtain ⟨_, _, _, _, h1, h2, h3⟩ := bindSD (rep := repE X.K T) h
  refine ⟨_, _, _, _, h1, h2, h3.imp fun v H1 ⟨d, γ1, hid, S1, ρ, q1, q3, q4, q5⟩ => ?_⟩
  exact q5 γ1 H1 σ q1 (Ext.refl _ _ _) q3
theorem es_ret (he : EvE X T EE e f) : EvS X T EE (.Return (some e) pos) (bindS f fun d _ S => .rt d S) := by
  refine ⟨(ps_ret he.pe).dimp fun Dn σ H h => ?_⟩
  refine (show dG X.K T EE (repE X.K T) f σ H _ from ?_)
  obtain ⟨_, _, _, _, h1, h2, h3⟩ := bindSD (rep := repE X.K T) h
  refine ⟨_, _, _, _, h1, h2, h3.imp fun v H1 ⟨d, γ1, hid, S1, ρ, q1, q3, q4, q5⟩ => ?_⟩
  exact q5 γ1 H1 v q1 (Ext.refl _ _ _) q4
theorem es_retN : EvS X T EE (.Return none pos) (fun _ S => .rt .non S) := ⟨ps_retN.dimp fun Dn σ H h => by
  obtain ⟨γ, hid, S, ρ, hold, env, h⟩ := h
  exact h γ H .non hold (Ext.refl _ _ _) .non⟩
theorem es_if {c : Expr} {as bs : List Stmt} {tc : En → M Bool} (hc : EvT X T EE c tc) (ha : EvSs X T EE as F) (hb : EvSs X T EE bs G) : EvS X T EE (.If c as bs pos) (bindS tc fun k => if k = true then F else G) := by
  refine ⟨(ps_if hc.pt ha.ps hb.ps).dimp fun Dn σ H h => ?_⟩
  refine (show dG X.K T EE repB tc σ H _ from ?_)
  obtain ⟨_, _, _, _, h1, h2, h3⟩ := bindSD (rep := repB) h
  refine ⟨_, _, _, _, h1, h2, h3.imp fun c H1 ⟨k, γ1, hid, S1, ρ, q1, q3, q4, q5⟩ => ?_⟩
  have q4' : k = c := q4
  subst q4'
  cases k with
  | true =>
    rw [if_pos rfl] at q5
    rw [if_pos rfl]
    exact ⟨γ1, hid, S1, ρ, q1, q3, q5⟩
  | false =>
    rw [if_neg Bool.false_ne_true] at q5
    rw [if_neg Bool.false_ne_true]
    exact ⟨γ1, hid, S1, ρ, q1, q3, q5⟩
/-- name = e -/
theorem es_set {i : Nat} {x : Str} {pos' : Pos} (hN : X.N.Nodup) (hi : X.N[i]? = some x) (hx : Loc X.env.scope x) (he : EvE X T EE e f) (hs : swapsWith e (some (.Name x pos')) pos.line X.env = pure false := by rfl) (hf : X.fn x = true ∨ X.env.scope.names.lookup x = some .local := by first | exact .inl rfl | exact .inr rfl | assumption) :
    EvS X T EE (.Assign [.Name x pos'] e pos) (bindS f fun d ρ S => .nx (ρ.set i (some d)) S) := by
  refine ⟨(ps_set hN hi hx he.pe hs hf).dimp fun Dn σ H h => ?_⟩
  refine (show dG X.K T EE (repE X.K T) f σ H _ from ?_)
  obtain ⟨_, _, _, _, h1, h2, h3⟩ := bindSD (rep := repE X.K T) h
  refine ⟨_, _, _, _, h1, h2, h3.imp fun v H1 ⟨d, γ1, hid, S1, ρ, q1, q3, q4, q5⟩ => ?_⟩
  exact q5 γ1 H1 _ q1 (Ext.refl _ _ _) (q3.set i q4)
/-- name op= e -/
theorem es_aug {i : Nat} {x : Str} {pos' : Pos} {o : Operator} {op : D → D → Cells → Option D} (hN : X.N.Nodup) (hi : X.N[i]? = some x) (hx : Loc X.env.scope x) (ho : OpR X (inplaceOp o) (rO X.K T op)) (he : EvE X T EE e f) (hf : X.fn x = true ∨ X.env.scope.names.lookup x = some .local := by first | exact .inl rfl | exact .inr rfl | assumption) :
    EvS X T EE (.AugAssign (.Name x pos') o e pos) (bindS (fun ρ => M.bind (rd ρ i) fun x => M.bind (f ρ) fun y => M.opt (op x y)) fun d ρ S => .nx (ρ.set i (some d)) S) := by
  have hp : PIp X o (rO X.K T op) := fun pins s σ H x y v u Q I r1 r2 h => ho pins s σ H x y v u Q I r1 r2 h
  refine ⟨(ps_aug hN hi hx he.pe hp hf).dimp fun Dn σ H h => ?_⟩
  obtain ⟨γ, hid, S, ρ, hold, env, h⟩ := h
  cases q : rd ρ i S with
  | ok d S' =>
    unfold rd at q
    split at q
    · rename_i d0 e0
      cases q
      obtain ⟨v, e1, rv⟩ := env.get i d e0
      refine ⟨v, e1, ?_⟩
      have h' : resS X.K T EE γ hid S H (bindS (fun ρ => M.bind (f ρ) fun y => M.opt (op d y)) (fun d ρ S => .nx (ρ.set i (some d)) S) ρ S) Dn := by
        unfold bindS M.bind rd at h
        simp only [e0] at h
        exact h
      refine (show dG X.K T EE (repE X.K T) f σ H _ from ?_)
      have h2 : resS X.K T EE γ hid S H (bindS f (fun y => bindS (fun _ => M.opt (op d y)) (fun d ρ S => .nx (ρ.set i (some d)) S)) ρ S) Dn := by
        unfold bindS M.bind at h'
        unfold bindS
        cases q : f ρ S with
        | ok y S' => simp only [q] at h'; exact h'
        | err x S' => simp only [q] at h'; exact h'
        | stuck => simp only [q] at h'; exact h'
      obtain ⟨_, _, _, _, g1, g2, g3⟩ := bindSR (rep := repE X.K T) hold env h2
      refine ⟨_, _, _, _, g1, g2, g3.imp fun y H1 ⟨d2, γ1, S1, q1, q2, q3, q4, q5⟩ => ?_⟩
      unfold bindS M.opt at q5
      cases w : op d d2 S1 with
      | none =>
        simp only [w] at q5
        exact q5.elim
      | some z =>
        simp only [w] at q5
        exact ⟨γ1, hid, S1, d, d2, z, q1, q2.rp rv, q4, w, fun γ' H' v c1 c2 c3 => q5 γ' H' _ c1 c2 ((q3.mono c2.pre (c2.sameH hid)).set i c3)⟩
    · cases q
  | err x S' =>
    unfold rd at q
    split at q <;> cases q
  | stuck =>
    unfold bindS M.bind at h
    simp only [q] at h
    exact h.elim
end
end DL
end
section
set_option maxHeartbeats 2000000
/-! DLc: targets, what is walked, for, while, comprehensions. -/
namespace DL
open PySem PySem.Spec L2
open PyProof.Rows hiding St

/-! ### targets: names and tuples of targets -/
inductive Pat where
  | nm (i : Nat) | tp (l : List Pat)
mutual
def Pat.put : Pat → D → En → Option En
  | .nm i, d, ρ => some (ρ.set i (some d))
  | .tp ps, d, ρ => match d with
    | .tup ds => putL ps ds ρ
    | _ => none
def putL : List Pat → List D → En → Option En
  | [], [], ρ => some ρ
  | p :: ps, d :: ds, ρ => match p.put d ρ with
    | some ρ' => putL ps ds ρ'
    | none => none
  | _, _, _ => none
end
mutual
def Pat.tg (K : PySem.W.Frag) : Pat → TG
  | .nm i => gName i
  | .tp ps => gTup K ps.length (tgL K ps)
def tgL (K : PySem.W.Frag) : List Pat → TGs
  | [] => gNil
  | p :: ps => gCons (p.tg K) (tgL K ps)
end
mutual
def Pat.slots : Pat → List Nat
  | .nm i => [i]
  | .tp ps => slotsL ps
def slotsL : List Pat → List Nat
  | [] => []
  | p :: ps => p.slots ++ slotsL ps
end
structure EvG (X : Cx) (e : Expr) (p : Pat) : Prop where
  pg : PG X e (p.tg X.K)
structure EvGs (X : Cx) (es : List Expr) (ps : List Pat) : Prop where
  pgs : PGs X es (tgL X.K ps)
section
variable {X : Cx} {pos : Pos}
theorem eg_name (i : Nat) {x : Str} (hN : X.N.Nodup) (hi : X.N[i]? = some x) (hx : Loc X.env.scope x) (hf : X.fn x = true ∨ X.env.scope.names.lookup x = some .local := by first | exact .inl rfl | exact .inr rfl | assumption) : EvG X (.Name x pos) (.nm i) := ⟨pg_name hN hi hx hf⟩
theorem egs_nil : EvGs X [] [] := ⟨pgs_nil⟩
theorem egs_cons {e : Expr} {es : List Expr} {p : Pat} {ps : List Pat} (h1 : EvG X e p) (h2 : EvGs X es ps) (hs : (assignEach (e :: es) X.env).map (·.2) = assign e X.env :: (assignEach es X.env).map (·.2) := by rfl) : EvGs X (e :: es) (p :: ps) := ⟨pgs_cons h1.pg h2.pgs hs⟩
theorem eg_tup {es : List Expr} {k : Nat} {ps : List Pat} (hc : X.calm = true) (h : EvGs X es ps) (hn : (assignEach es X.env).length = ps.length := by rfl) (hst : (assignEach es X.env).findIdx? (·.1) = none := by rfl) : EvG X (.Tuple es k pos) (.tp ps) := ⟨pg_tup hc h.pgs hn hst⟩
end
theorem wipe_get (σ : St) : ∀ (vs : List Nat) (j : Nat), (wipe σ vs)[j]? = if j ∈ vs then (if j < σ.length then some none else none) else σ[j]?
  | [], j => by simp [wipe]
  | v :: vs, j => by
    unfold wipe
    rw [List.getElem?_set, wipe_get σ vs j, wipe_length]
    by_cases h : v = j
    · subst h
      simp
    · simp [h, Ne.symm h]
theorem wipe_set {σ : St} {vs : List Nat} {i : Nat} {x : Option V} (h : i ∈ vs) : wipe (σ.set i x) vs = wipe σ vs := by
  apply List.ext_getElem?
  intro j
  rw [wipe_get, wipe_get, List.length_set]
  by_cases hj : j ∈ vs
  · rw [if_pos hj, if_pos hj]
  · rw [if_neg hj, if_neg hj, List.getElem?_set_ne]
    rintro rfl
    exact hj h
theorem wipe_wipe (σ : St) (vs : List Nat) : wipe (wipe σ vs) vs = wipe σ vs := by
  apply List.ext_getElem?
  intro j
  rw [wipe_get, wipe_length, wipe_get]
  by_cases hj : j ∈ vs
  · rw [if_pos hj, if_pos hj]
  · rw [if_neg hj, if_neg hj]
section
variable {K : PySem.W.Frag} {T : Tab} {γ : List Addr} {F H : Hp}
mutual
theorem put_ok (hs : Same F H) : ∀ (p : Pat) (d : D) (v : V) (ρ ρ' : En) (σ : St) (Q : St → Hp → Prop), EnvR K T γ F ρ σ → Rp K T γ F d v → p.put d ρ = some ρ' →
    (∀ σ', EnvR K T γ F ρ' σ' → (∀ vs : List Nat, (∀ i ∈ p.slots, i ∈ vs) → wipe σ' vs = wipe σ vs) → Q σ' H) → p.tg K v σ H Q
  | .nm i, d, v, ρ, ρ', σ, Q, env, r, e, q => by
    unfold Pat.put at e
    cases e
    unfold Pat.tg
    exact q _ (env.set i r) fun vs h => wipe_set (h i (by simp [Pat.slots]))
  | .tp ps, .tup ds, v, ρ, ρ', σ, Q, env, r, e, q => by
    unfold Pat.put at e
    unfold Pat.tg
    cases r with
    | tup a z b =>
      have hl : ds.length = ps.length := putL_len ps ds ρ ρ' e
      refine ⟨_, _, rfl, same_seqT hs a, by rw [← b.length, hl], ?_⟩
      exact putL_ok hs ps ds _ ρ ρ' σ Q env b e fun σ' h1 h2 => q σ' h1 fun vs h => h2 vs (by unfold Pat.slots at h; exact h)
  | .tp ps, .non, _, _, _, _, _, _, _, e, _ => by unfold Pat.put at e; cases e
  | .tp ps, .bl _, _, _, _, _, _, _, _, e, _ => by unfold Pat.put at e; cases e
  | .tp ps, .int _, _, _, _, _, _, _, _, e, _ => by unfold Pat.put at e; cases e
  | .tp ps, .str _, _, _, _, _, _, _, _, e, _ => by unfold Pat.put at e; cases e
  | .tp ps, .lst _, _, _, _, _, _, _, _, e, _ => by unfold Pat.put at e; cases e
  | .tp ps, .ref _, _, _, _, _, _, _, _, e, _ => by unfold Pat.put at e; cases e
  | .tp ps, .obj _ _, _, _, _, _, _, _, _, e, _ => by unfold Pat.put at e; cases e
theorem putL_ok (hs : Same F H) : ∀ (ps : List Pat) (ds : List D) (vs : List V) (ρ ρ' : En) (σ : St) (Q : St → Hp → Prop), EnvR K T γ F ρ σ → RpL K T γ F ds vs → putL ps ds ρ = some ρ' →
    (∀ σ', EnvR K T γ F ρ' σ' → (∀ ws : List Nat, (∀ i ∈ slotsL ps, i ∈ ws) → wipe σ' ws = wipe σ ws) → Q σ' H) → tgL K ps vs σ H Q
  | [], [], _, ρ, ρ', σ, Q, env, r, e, q => by
    cases r
    unfold putL at e
    cases e
    unfold tgL
    exact ⟨rfl, q σ env fun _ _ => rfl⟩
  | p :: ps, d :: ds, _, ρ, ρ', σ, Q, env, r, e, q => by
    cases r with
    | cons a b =>
      unfold putL at e
      cases e1 : p.put d ρ with
      | none => rw [e1] at e; cases e
      | some ρ1 =>
        rw [e1] at e
        unfold tgL
        refine ⟨_, _, rfl, put_ok hs p d _ ρ ρ1 σ _ env a e1 fun σ1 h1 h2 => ?_⟩
        refine putL_ok hs ps ds _ ρ1 ρ' σ1 Q h1 b e fun σ2 h3 h4 => q σ2 h3 fun ws hw => ?_
        rw [h4 ws fun i hi => hw i (by unfold slotsL; exact List.mem_append_right _ hi), h2 ws fun i hi => hw i (by unfold slotsL; exact List.mem_append_left _ hi)]
  | [], d :: ds, _, _, _, _, _, _, _, e, _ => by unfold putL at e; cases e
  | p :: ps, [], _, _, _, _, _, _, _, e, _ => by unfold putL at e; cases e
theorem putL_len : ∀ (ps : List Pat) (ds : List D) (ρ ρ' : En), putL ps ds ρ = some ρ' → ds.length = ps.length
  | [], [], _, _, _ => rfl
  | p :: ps, d :: ds, ρ, ρ', e => by
    unfold putL at e
    cases e1 : p.put d ρ with
    | none => rw [e1] at e; cases e
    | some ρ1 =>
      rw [e1] at e
      simp [putL_len ps ds ρ1 ρ' e]
  | [], d :: ds, _, _, e => by unfold putL at e; cases e
  | p :: ps, [], _, _, e => by unfold putL at e; cases e
end
end
section
variable {X : Cx} {T : Tab} {EE : XX} {e tg : Expr} {f : En → M D} {pos : Pos}
/-- target = e -/
def asgD (f : En → M D) (p : Pat) : SM := bindS f fun d ρ S => match p.put d ρ with
  | some ρ' => .nx ρ' S
  | none => .stuck
theorem es_asg {p : Pat} (he : EvE X T EE e f) (hg : EvG X tg p) (hs : swapsWithSole [tg] e pos.line X.env = pure false := by rfl) (hw : swappedStores [tg] e X.env = pure none := by rfl)
    (h1 : (assignEach [tg] X.env).map (·.2) = [assign tg X.env] := by rfl) : EvS X T EE (.Assign [tg] e pos) (asgD f p) := by
  refine ⟨(ps_asg he.pe hg.pg hs hw h1).dimp fun Dn σ H h => ?_⟩
  refine (show dG X.K T EE (repE X.K T) f σ H _ from ?_)
  obtain ⟨_, _, _, _, h1, h2, h3⟩ := bindSD (rep := repE X.K T) h
  refine ⟨_, _, _, _, h1, h2, h3.imp fun v H1 ⟨d, γ1, hid, S1, ρ, q1, q3, q4, q5⟩ => ?_⟩
  cases e1 : p.put d ρ with
  | none =>
    rw [e1] at q5
    exact q5.elim
  | some ρ' =>
    rw [e1] at q5
    exact put_ok (out_sub _ _ _ _) p d v ρ ρ' σ _ q3 q4 e1 fun σ' a1 _ => q5 γ1 H1 σ' q1 (Ext.refl _ _ _) a1
/-- a, b = x, y (plain local names) -/
theorem es_par {i j : Nat} {x y : Str} {a b : Expr} {fs : En → M (List D)} {px py pt : Pos} {kt k2 : Nat} {pt2 : Pos} (hc : X.calm = true) (hN : X.N.Nodup) (hi : X.N[i]? = some x) (hj : X.N[j]? = some y) (hij : i ≠ j)
    (hx : X.env.scope.names.lookup x = some .local) (hy : X.env.scope.names.lookup y = some .local) (ha : EvA X T EE [a, b] fs)
    (hw : swappedStores [.Tuple [.Name x px, .Name y py] kt pt] (.Tuple [a, b] k2 pt2) X.env = pure (some [x, y]))
    (hs : swapsWithSole [.Tuple [.Name x px, .Name y py] kt pt] (.Tuple [a, b] k2 pt2) pos.line X.env = pure false := by rfl) :
    EvS X T EE (.Assign [.Tuple [.Name x px, .Name y py] kt pt] (.Tuple [a, b] k2 pt2) pos) (bindS fs fun l ρ S => match l with
      | [d, e] => .nx ((ρ.set i (some d)).set j (some e)) S
      | _ => .stuck) := by
  refine ⟨(ps_par hc hN hi hj hij hx hy ha.pa hw hs).dimp fun Dn σ H h => ?_⟩
  refine (show dG X.K T EE (repA X.K T) fs σ H _ from ?_)
  obtain ⟨_, _, _, _, h1, h2, h3⟩ := bindSD (rep := repA X.K T) h
  refine ⟨_, _, _, _, h1, h2, h3.imp fun vs H1 ⟨l, γ1, hid, S1, ρ, q1, q3, q4, q5⟩ => ?_⟩
  cases q4 with
  | nil => exact q5.elim
  | cons r1 r =>
    cases r with
    | nil => exact q5.elim
    | cons r2 r =>
      cases r with
      | nil => exact ⟨_, _, rfl, q5 γ1 H1 _ q1 (Ext.refl _ _ _) ((q3.set i r1).set j r2)⟩
      | cons r3 r => exact q5.elim
end

/-! ### what is walked -/
/-- J gives these items, whenever what stood still stands -/
def repI (K : PySem.W.Frag) (T : Tab) : List Addr → Hp → List D → It → Prop := fun γ F items J =>
  items.length ≤ sizeLine ∧ ∀ (γ2 hid2 : List Addr) (S2 : Cells) (H2 : Hp), (∀ (n : Nat) (a : Addr), γ[n]? = some a → γ2[n]? = some a) → Same F (out γ2 S2 hid2 H2) → Hold K T γ2 hid2 S2 H2 →
    (∀ i, i < items.length → J.go i H2) ∧ J.stop items.length H2 ∧
    ∀ i x H3, i < items.length → J.yld i H2 x H3 → ∃ d, items[i]? = some d ∧ Hold K T γ2 hid2 S2 H3 ∧ Ext γ2 S2 H2 γ2 S2 H3 ∧ Rp K T γ2 (out γ2 S2 hid2 H3) d x
def dI (K : PySem.W.Frag) (T : Tab) (EE : XX) (f : En → M (List D)) : TI := fun σ H R => dG K T EE (repI K T) f σ H R
structure EvI (X : Cx) (T : Tab) (EE : XX) (tg iter : Expr) (f : En → M (List D)) : Prop where
  pi : PI X tg iter (dI X.K T EE f)
theorem _root_.L2.PI.dimp {X : Cx} {tg e : Expr} {t t' : TI} (h : PI X tg e t) (i : ∀ σ H Q, t' σ H Q → t σ H Q) : PI X tg e t' := ⟨fun pins s σ H Q I q => h.run pins s σ H Q I (i _ _ _ q)⟩
theorem _root_.L2.PI.or2 {X : Cx} {tg e : Expr} {t t' : TI} (h : PI X tg e t) (h' : PI X tg e t') : PI X tg e (fun σ H R => t σ H R ∨ t' σ H R) := ⟨fun pins s σ H Q I q => q.elim (h.run pins s σ H Q I) (h'.run pins s σ H Q I)⟩
section
variable {K : PySem.W.Frag} {T : Tab} {γ : List Addr} {F : Hp}
theorem repI_list {a : Addr} {ds : List D} {vs : List V} (hq : SqL K F a vs) (z : ds.length ≤ sizeLine) (r : RpL K T γ F ds vs) : repI K T γ F ds (Itl K a) := by
  refine ⟨z, fun γ2 hid2 S2 H2 hp hs hh => ?_⟩
  have hq2 : SqL K H2 a vs := (out_sub _ _ _ _).seq (hs.seq hq)
  have hl := r.length
  refine ⟨fun i hi => ⟨vs, vs[i]'(by omega), hq2, List.getElem?_eq_getElem _⟩, ⟨vs, hq2, by omega⟩, fun i x H3 hi y => ?_⟩
  obtain ⟨e, y⟩ := y
  subst e
  obtain ⟨d, e1, r1⟩ := r.get' (y vs hq2)
  exact ⟨d, e1, hh, Ext.refl _ _ _, Rp.mono hp hs d x r1⟩
theorem repI_tup {a : Addr} {ds : List D} {vs : List V} (hq : SqT K F a vs) (z : ds.length ≤ sizeLine) (r : RpL K T γ F ds vs) : repI K T γ F ds (Itt K a) := by
  refine ⟨z, fun γ2 hid2 S2 H2 hp hs hh => ?_⟩
  have hq2 : SqT K H2 a vs := same_seqT (out_sub _ _ _ _) (same_seqT hs hq)
  have hl := r.length
  refine ⟨fun i hi => ⟨vs, vs[i]'(by omega), hq2, List.getElem?_eq_getElem _⟩, ⟨vs, hq2, by omega⟩, fun i x H3 hi y => ?_⟩
  obtain ⟨e, y⟩ := y
  subst e
  obtain ⟨d, e1, r1⟩ := r.get' (y vs hq2)
  exact ⟨d, e1, hh, Ext.refl _ _ _, Rp.mono hp hs d x r1⟩
/-- the signs of a text -/
def signsD (x : Str) : List D := x.cps.toList.map fun c => .str ⟨#[c]⟩
theorem one_sign {c : Nat} : (⟨#[c]⟩ : Str).length ≤ sizeLine := by
  rw [sizeLine_eq]
  show 1 ≤ _
  decide
theorem repI_str (x : Str) (z : x.length ≤ sizeLine) : repI K T γ F (signsD x) (Its x) := by
  have hl : (signsD x).length = x.cps.size := by simp [signsD]
  refine ⟨by rw [hl]; exact z, fun γ2 hid2 S2 H2 hp hs hh => ?_⟩
  refine ⟨fun i hi => by rw [hl] at hi; exact hi, by show x.cps.size ≤ _; omega, fun i v H3 hi y => ?_⟩
  obtain ⟨e, c, ec, ev⟩ := y
  subst e
  subst ev
  refine ⟨.str ⟨#[c]⟩, ?_, hh, Ext.refl _ _ _, .str _ one_sign⟩
  unfold signsD
  rw [List.getElem?_map, Array.getElem?_toList, ec]
  rfl
theorem repI_range (lo : Int) (n : Nat) (z : n ≤ sizeLine) : repI K T γ F ((List.range n).map fun i => D.int (lo + (i : Nat))) (Itr lo n) := by
  have hl : ((List.range n).map fun i => D.int (lo + (i : Nat))).length = n := by simp
  refine ⟨by rw [hl]; exact z, fun γ2 hid2 S2 H2 hp hs hh => ?_⟩
  refine ⟨fun i hi => by rw [hl] at hi; exact hi, by show n ≤ _; omega, fun i v H3 hi y => ?_⟩
  obtain ⟨e, ev⟩ := y
  subst e
  subst ev
  rw [hl] at hi
  refine ⟨.int (lo + i), ?_, hh, Ext.refl _ _ _, .int _⟩
  rw [List.getElem?_map, List.getElem?_range hi]
  rfl
theorem repI_rangeC (lo c : Int) (n : Nat) (z : n ≤ sizeLine) : repI K T γ F ((List.range n).map fun i => D.int (lo + (i : Nat) * c)) (Itc lo c n) := by
  have hl : ((List.range n).map fun i => D.int (lo + (i : Nat) * c)).length = n := by simp
  refine ⟨by rw [hl]; exact z, fun γ2 hid2 S2 H2 hp hs hh => ?_⟩
  refine ⟨fun i hi => by rw [hl] at hi; exact hi, by show n ≤ _; omega, fun i v H3 hi y => ?_⟩
  obtain ⟨e, ev⟩ := y
  subst e
  subst ev
  rw [hl] at hi
  refine ⟨.int (lo + (i : Nat) * c), ?_, hh, Ext.refl _ _ _, .int _⟩
  rw [List.getElem?_map, List.getElem?_range hi]
  rfl
theorem two_small : ([D.non, D.non] : List D).length ≤ sizeLine := by
  rw [sizeLine_eq]
  decide
def pairsD (l m : List D) : List D := (l.zip m).map fun p => .tup [p.1, p.2]
theorem repI_zip {a b : Addr} {ds es : List D} {vs ws : List V} (hq : SqL K F a vs) (hq' : SqL K F b ws) (z : ds.length ≤ sizeLine) (r : RpL K T γ F ds vs) (r' : RpL K T γ F es ws) : repI K T γ F (pairsD ds es) (Itz K a b) := by
  have hl := r.length
  have hl' := r'.length
  have hn : (pairsD ds es).length = min ds.length es.length := by simp [pairsD]
  refine ⟨by omega, fun γ2 hid2 S2 H2 hp hs hh => ?_⟩
  have hq2 : SqL K H2 a vs := (out_sub _ _ _ _).seq (hs.seq hq)
  have hq3 : SqL K H2 b ws := (out_sub _ _ _ _).seq (hs.seq hq')
  have W := walk_zip (K := K) (a := a) (b := b) (xs := vs) (ys := ws) (n := min ds.length es.length) (by omega)
  rw [hn]
  refine ⟨fun i hi => W.goes i H2 hi ⟨hq2, hq3⟩, W.stops H2 ⟨hq2, hq3⟩, fun i x H3 hi y => ?_⟩
  obtain ⟨t, x1, x2, e1, nt, e2, g1, g2⟩ := W.yields i H2 x H3 hi ⟨hq2, hq3⟩ y
  subst e1
  subst e2
  obtain ⟨d1, f1, r1⟩ := r.get' g1
  obtain ⟨d2, f2, r2⟩ := r'.get' g2
  obtain ⟨a1, a2, a3⟩ := hh.lay nt (.tup [x1, x2])
  refine ⟨.tup [d1, d2], ?_, a1, a2, .tup (SqT.of (a3 hid2 (hh.fresh nt).2)) two_small (.cons (a2.rp (Rp.mono hp hs _ _ r1)) (.one (a2.rp (Rp.mono hp hs _ _ r2))))⟩
  unfold pairsD
  rw [List.getElem?_map, List.getElem?_zip_eq_some (z := (d1, d2)) |>.mpr ⟨f1, f2⟩]
  rfl
def enumD (l : List D) : List D := (l.zipIdx).map fun p => .tup [.int (p.2 : Nat), p.1]
theorem repI_enum {a : Addr} {ds : List D} {vs : List V} (hq : SqL K F a vs) (z : ds.length ≤ sizeLine) (r : RpL K T γ F ds vs) : repI K T γ F (enumD ds) (Ite K a) := by
  have hl := r.length
  have hn : (enumD ds).length = ds.length := by simp [enumD]
  refine ⟨by omega, fun γ2 hid2 S2 H2 hp hs hh => ?_⟩
  have hq2 : SqL K H2 a vs := (out_sub _ _ _ _).seq (hs.seq hq)
  have W := walk_enum (K := K) (a := a) (xs := vs)
  rw [hn, hl]
  refine ⟨fun i hi => W.goes i H2 hi hq2, W.stops H2 hq2, fun i x H3 hi y => ?_⟩
  obtain ⟨t, x1, x2, e1, nt, e2, g1, g2⟩ := W.yields i H2 x H3 hi hq2 y
  subst e1
  subst e2
  cases g1
  obtain ⟨d2, f2, r2⟩ := r.get' g2
  obtain ⟨a1, a2, a3⟩ := hh.lay nt (.tup [.int (i : Nat), x2])
  refine ⟨.tup [.int (i : Nat), d2], ?_, a1, a2, .tup (SqT.of (a3 hid2 (hh.fresh nt).2)) two_small (.cons (.int _) (.one (a2.rp (Rp.mono hp hs _ _ r2))))⟩
  unfold enumD
  rw [List.getElem?_map, List.getElem?_zipIdx, f2]
  simp
end
/-- the items of what is walked -/
def itemsD (d : D) : Option (List D) := match d with
  | .lst l => some l
  | .tup l => some l
  | .str x => some (signsD x)
  | _ => none
section
variable {X : Cx} {T : Tab} {EE : XX} {tg e a b c : Expr} {f fa fb : En → M D} {fs : En → M (List D)} {p pos tpos : Pos} {elts : List Expr} {kk : Nat}
theorem ei_seq (he : EvE X T EE e f) : EvI X T EE tg e (fun ρ => M.bind (f ρ) fun d => M.opt fun _ => itemsD d) := by
  refine ⟨((pi_list he.pe).or2 ((pi_tup he.pe).or2 (pi_str he.pe))).dimp fun σ H R h => ?_⟩
  obtain ⟨γ, hid, S, ρ, hold, env, h⟩ := h
  cases q : f ρ S with
  | ok d S' =>
    have h' : resG X.K T EE (repI X.K T) γ hid S H ρ σ (M.opt (fun _ => itemsD d) S') R := by
      rw [← bind_of_ok (g := fun d => M.opt fun _ => itemsD d) q]
      exact h
    cases d with
    | lst l =>
      refine .inl ⟨γ, hid, S, ρ, hold, env, ?_⟩
      rw [q]
      intro γ' H' v a1 a2 a3
      cases a3 with
      | lst x z y => exact ⟨_, rfl, ⟨_, (out_sub _ _ _ _).seq x⟩, h' γ' H' _ a1 a2 (repI_list x z y)⟩
    | tup l =>
      refine .inr (.inl ⟨γ, hid, S, ρ, hold, env, ?_⟩)
      rw [q]
      intro γ' H' v a1 a2 a3
      cases a3 with
      | tup x z y => exact ⟨_, rfl, ⟨_, same_seqT (out_sub _ _ _ _) x⟩, h' γ' H' _ a1 a2 (repI_tup x z y)⟩
    | str x =>
      refine .inr (.inr ⟨γ, hid, S, ρ, hold, env, ?_⟩)
      rw [q]
      intro γ' H' v a1 a2 a3
      cases a3 with
      | str x z => exact ⟨_, rfl, h' γ' H' _ a1 a2 (repI_str _ z)⟩
    | non => exact (h' : False).elim
    | bl _ => exact (h' : False).elim
    | int _ => exact (h' : False).elim
    | ref _ => exact (h' : False).elim
    | obj _ _ => exact (h' : False).elim
  | err x S' =>
    have h' : resG X.K T EE (repI X.K T) γ hid S H ρ σ (.err x S') R := by
      rw [← bind_of_err (g := fun d => M.opt fun _ => itemsD d) q]
      exact h
    refine .inl ⟨γ, hid, S, ρ, hold, env, ?_⟩
    rw [q]
    exact h'
  | stuck =>
    have h' : resG X.K T EE (repI X.K T) γ hid S H ρ σ (.stuck : DL.R (List D)) R := by
      rw [← bind_of_stuck (g := fun d => M.opt fun _ => itemsD d) q]
      exact h
    exact h'.elim
def rangeD (lo hi : Int) : Option (List D) := if (-(2 ^ 62) ≤ lo ∧ lo < 2 ^ 62 ∧ -(2 ^ 62) ≤ hi ∧ hi < 2 ^ 62) ∧ (hi - lo).toNat ≤ sizeLine then some ((List.range (hi - lo).toNat).map fun i => D.int (lo + (i : Nat))) else none
def range1 (l : List D) : Option (List D) := match l with
  | [.int j] => rangeD 0 j
  | _ => none
def range2 (l : List D) : Option (List D) := match l with
  | [.int i, .int j] => rangeD i j
  | _ => none
theorem ei_range1 (hg : Gl X "range") (hm : X.mg "range" = none) (ha : EvA X T EE [a] fs) (hs : starEach [a] X.env = [(false, eval a X.env)] := by rfl) : EvI X T EE tg (.Call (.Name "range" p) [a] [] pos) (fun ρ => M.bind (fs ρ) fun l => M.opt fun _ => range1 l) := by
  refine ⟨(pi_range1 hg hm ha.pa hs).dimp fun σ H R h => ?_⟩
  refine (show dG X.K T EE (repA X.K T) fs σ H _ from ?_)
  obtain ⟨_, _, _, _, h1, h2, h3⟩ := bindD (rep := repA X.K T) h
  refine ⟨_, _, _, _, h1, h2, h3.imp fun vs H1 ⟨l, γ1, hid, S1, ρ, q1, q3, q4, q5⟩ => ?_⟩
  obtain ⟨d, e, w5⟩ := opt_ok q5
  unfold range1 at e
  split at e
  · cases q4 with
    | cons r1 r =>
      cases r1
      cases r
      unfold rangeD at e
      split at e
      · rename_i hj
        cases e
        refine ⟨_, rfl, hj.1.2.2.1, hj.1.2.2.2, ?_⟩
        rw [Int.sub_zero] at w5 hj
        exact w5 γ1 H1 _ q1 (Ext.refl _ _ _) (repI_range 0 _ hj.2)
      · cases e
  · cases e
theorem ei_range2 (hg : Gl X "range") (hm : X.mg "range" = none) (ha : EvA X T EE [a, b] fs) (hs : starEach [a, b] X.env = [(false, eval a X.env), (false, eval b X.env)] := by rfl) (hs2 : starEach [b] X.env = [(false, eval b X.env)] := by rfl) :
    EvI X T EE tg (.Call (.Name "range" p) [a, b] [] pos) (fun ρ => M.bind (fs ρ) fun l => M.opt fun _ => range2 l) := by
  refine ⟨(pi_range2 hg hm ha.pa hs hs2).dimp fun σ H R h => ?_⟩
  refine (show dG X.K T EE (repA X.K T) fs σ H _ from ?_)
  obtain ⟨_, _, _, _, h1, h2, h3⟩ := bindD (rep := repA X.K T) h
  refine ⟨_, _, _, _, h1, h2, h3.imp fun vs H1 ⟨l, γ1, hid, S1, ρ, q1, q3, q4, q5⟩ => ?_⟩
  obtain ⟨d, e, w5⟩ := opt_ok q5
  unfold range2 at e
  split at e
  · cases q4 with
    | cons r1 r =>
      cases r1
      cases r with
      | cons r2 r =>
        cases r2
        cases r
        unfold rangeD at e
        split at e
        · rename_i hj
          cases e
          exact ⟨_, _, rfl, hj.1, w5 γ1 H1 _ q1 (Ext.refl _ _ _) (repI_range _ _ hj.2)⟩
        · cases e
  · cases e
def zipA (l : List D) : Option (List D) := match l with
  | [.lst x, .lst y] => some (pairsD x y)
  | _ => none
theorem ei_zip (hg : Gl X "zip") (hm : X.mg "zip" = none) (ha : EvA X T EE [a, b] fs) (hs : starEach [a, b] X.env = (false, eval a X.env) :: starEach [b] X.env := by rfl) (hpl : (backTo pos (starEach [b] X.env)).any (·.1) = false := by rfl) :
    EvI X T EE (.Tuple elts kk tpos) (.Call (.Name "zip" p) [a, b] [] pos) (fun ρ => M.bind (fs ρ) fun l => M.opt fun _ => zipA l) := by
  refine ⟨(pi_zip hg hm ha.pa hs hpl).dimp fun σ H R h => ?_⟩
  refine (show dG X.K T EE (repA X.K T) fs σ H _ from ?_)
  obtain ⟨_, _, _, _, h1, h2, h3⟩ := bindD (rep := repA X.K T) h
  refine ⟨_, _, _, _, h1, h2, h3.imp fun vs H1 ⟨l, γ1, hid, S1, ρ, q1, q3, q4, q5⟩ => ?_⟩
  obtain ⟨d, e, w5⟩ := opt_ok q5
  unfold zipA at e
  split at e
  · cases e
    cases q4 with
    | cons r1 r =>
      cases r with
      | cons r2 r =>
        cases r
        cases r1 with
        | lst x z y =>
          cases r2 with
          | lst x' z' y' => exact ⟨_, _, _, _, rfl, (out_sub _ _ _ _).seq x, (out_sub _ _ _ _).seq x', w5 γ1 H1 _ q1 (Ext.refl _ _ _) (repI_zip x x' z y y')⟩
  · cases e
def enumA (l : List D) : Option (List D) := match l with
  | [.lst x] => some (enumD x)
  | _ => none
theorem ei_enum (hg : Gl X "enumerate") (hm : X.mg "enumerate" = none) (ha : EvA X T EE [a] fs) (hs : starEach [a] X.env = [(false, eval a X.env)] := by rfl) :
    EvI X T EE (.Tuple elts kk tpos) (.Call (.Name "enumerate" p) [a] [] pos) (fun ρ => M.bind (fs ρ) fun l => M.opt fun _ => enumA l) := by
  refine ⟨(pi_enum hg hm ha.pa hs).dimp fun σ H R h => ?_⟩
  refine (show dG X.K T EE (repA X.K T) fs σ H _ from ?_)
  obtain ⟨_, _, _, _, h1, h2, h3⟩ := bindD (rep := repA X.K T) h
  refine ⟨_, _, _, _, h1, h2, h3.imp fun vs H1 ⟨l, γ1, hid, S1, ρ, q1, q3, q4, q5⟩ => ?_⟩
  obtain ⟨d, e, w5⟩ := opt_ok q5
  unfold enumA at e
  split at e
  · cases e
    cases q4 with
    | cons r1 r =>
      cases r
      cases r1 with
      | lst x z y => exact ⟨_, _, rfl, (out_sub _ _ _ _).seq x, w5 γ1 H1 _ q1 (Ext.refl _ _ _) (repI_enum x z y)⟩
  · cases e
end

/-! ### for -/
/-- behind a turn's body -/
def stepD (k : SM) : Out → Out
  | .nx ρ S => k ρ S
  | .ct ρ S => k ρ S
  | .bk ρ S => .nx ρ S
  | .rt d S => .rt d S
  | .er x ρ S => .er x ρ S
  | .stuck => .stuck
def putM (o : Option En) (k : En → Out) : Out := match o with
  | some ρ => k ρ
  | none => .stuck
def forD (p : Pat) (body : SM) : List D → SM
  | [], ρ, S => .nx ρ S
  | d :: ds, ρ, S => putM (p.put d ρ) fun ρ1 => stepD (forD p body ds) (body ρ1 S)
theorem forD_cons {p : Pat} {body : SM} {d : D} {ds : List D} {ρ : En} {S : Cells} : forD p body (d :: ds) ρ S = putM (p.put d ρ) fun ρ1 => stepD (forD p body ds) (body ρ1 S) := rfl
section
variable {X : Cx} {T : Tab} {EE : XX} {tg iter : Expr} {fi : En → M (List D)} {p : Pat} {body : List Stmt} {B : SM} {pos : Pos}
theorem es_for (hp : PassesOwn (model X.prog X.w) X.A X.env X.xe) (hc : X.calm = true) (hi : EvI X T EE tg iter fi) (hg : EvG X tg p) (hb : EvSs X T EE body B) (hs : ∀ x, foldedSetIterable iter X.env x = pure x := by intro _; rfl) :
    EvS X T EE (.For tg iter body [] pos) (bindS fi fun items => forD p B items) := by
  refine ⟨(ps_for hp hc hi.pi hg.pg hb.ps hs).dimp fun Dn σ H h => ?_⟩
  refine (show dG X.K T EE (repI X.K T) fi σ H _ from ?_)
  obtain ⟨_, _, _, _, h1, h2, h3⟩ := bindSD (rep := repI X.K T) h
  refine ⟨_, _, _, _, h1, h2, h3.imp fun J H1 ⟨items, γ1, hid, S1, ρ1, q1, q3, q4, q5⟩ => ?_⟩
  obtain ⟨z, q4⟩ := q4
  refine ⟨fun i m σ' H' => m = items.length - i ∧ i ≤ items.length ∧ ∃ γ2 S2 ρ2, Hold X.K T γ2 hid S2 H' ∧ (∀ (n : Nat) (a : Addr), γ1[n]? = some a → γ2[n]? = some a) ∧ Same (out γ1 S1 hid H1) (out γ2 S2 hid H') ∧ EnvR X.K T γ2 (out γ2 S2 hid H') ρ2 σ' ∧
    resS X.K T EE γ2 hid S2 H' (forD p B (items.drop i) ρ2 S2) Dn, ⟨items.length, by simp, Nat.zero_le _, γ1, S1, ρ1, q1, fun _ _ z => z, Same.refl _, q3, q5⟩, ?_⟩
  rintro i m σ' H' ⟨rfl, hi, γ2, S2, ρ2, w1, w2, w3, w4, w5⟩
  obtain ⟨g1, g2, g3⟩ := q4 γ2 hid S2 H' w2 w3 w1
  by_cases hlt : i < items.length
  · refine .inr ⟨g1 i hlt, fun σ3 H3 => i + 1 ≤ items.length ∧ ∃ γ2 S2 ρ2, Hold X.K T γ2 hid S2 H3 ∧ (∀ (n : Nat) (a : Addr), γ1[n]? = some a → γ2[n]? = some a) ∧ Same (out γ1 S1 hid H1) (out γ2 S2 hid H3) ∧ EnvR X.K T γ2 (out γ2 S2 hid H3) ρ2 σ3 ∧
      resS X.K T EE γ2 hid S2 H3 (forD p B (items.drop (i + 1)) ρ2 S2) Dn, fun σ3 H3 hN => ⟨items.length - (i + 1), by omega, rfl, hN⟩, fun x H3 y => ?_⟩
    obtain ⟨d, e1, k1, k2, k3⟩ := g3 i x H3 hlt y
    have ed : items.drop i = d :: items.drop (i + 1) := by
      rw [List.drop_eq_getElem_cons hlt]
      have := (List.getElem?_eq_some_iff.mp e1).2
      rw [this]
    rw [ed, forD_cons] at w5
    have w5 := w5.base k2
    have w4 := w4.mono k2.pre (k2.sameH hid)
    cases ep : p.put d ρ2 with
    | none =>
      rw [ep] at w5
      exact w5.elim
    | some ρ3 =>
      rw [ep] at w5
      have w5 : resS X.K T EE γ2 hid S2 H3 (stepD (forD p B (items.drop (i + 1))) (B ρ3 S2)) Dn := w5
      refine put_ok (out_sub _ _ _ _) p d x ρ2 ρ3 σ' _ w4 k3 ep fun σ4 n1 _ => ?_
      refine ⟨γ2, hid, S2, ρ3, k1, n1, ?_⟩
      have go : ∀ {γ' : List Addr} {H4 : Hp} {σ5 : St} {ρ5 : En} {S5 : Cells}, Hold X.K T γ' hid S5 H4 → Ext γ2 S2 H3 γ' S5 H4 → EnvR X.K T γ' (out γ' S5 hid H4) ρ5 σ5 → resS X.K T EE γ2 hid S2 H3 (forD p B (items.drop (i + 1)) ρ5 S5) Dn →
          i + 1 ≤ items.length ∧ ∃ γ2 S2 ρ2, Hold X.K T γ2 hid S2 H4 ∧ (∀ (n : Nat) (a : Addr), γ1[n]? = some a → γ2[n]? = some a) ∧ Same (out γ1 S1 hid H1) (out γ2 S2 hid H4) ∧ EnvR X.K T γ2 (out γ2 S2 hid H4) ρ2 σ5 ∧
            resS X.K T EE γ2 hid S2 H4 (forD p B (items.drop (i + 1)) ρ2 S2) Dn := fun {γ' H4 σ5 ρ5 S5} a1 a2 a3 a4 =>
        ⟨hlt, γ', S5, ρ5, a1, fun n a z => a2.pre n a (w2 n a z), w3.trans ((k2.trans a2).sameH hid), a3, a4.base a2⟩
      cases eb : B ρ3 S2 with
      | nx ρ5 S5 =>
        rw [eb] at w5
        exact fun γ' H4 σ5 a1 a2 a3 => go a1 a2 a3 w5
      | ct ρ5 S5 =>
        rw [eb] at w5
        exact fun γ' H4 σ5 a1 a2 a3 => go a1 a2 a3 w5
      | bk ρ5 S5 =>
        rw [eb] at w5
        exact fun γ' H4 σ5 a1 a2 a3 => w5 γ' H4 σ5 a1 a2 a3
      | rt d5 S5 =>
        rw [eb] at w5
        exact w5
      | er x5 ρ5 S5 =>
        rw [eb] at w5
        exact w5
      | stuck =>
        rw [eb] at w5
        exact w5.elim
  · have e : i = items.length := by omega
    subst e
    refine .inl ⟨g2, ?_⟩
    rw [List.drop_length] at w5
    exact w5 γ2 H' σ' w1 (Ext.refl _ _ _) w4
end

/-! ### while -/
def tstM (r : DL.R Bool) (ρ : En) (k : Cells → Out) : Out := match r with
  | .ok true S => k S
  | .ok false S => .nx ρ S
  | .err x S => .er x ρ S
  | .stuck => .stuck
def whileD (c : En → M Bool) (body : SM) : Nat → SM
  | 0, _, _ => .stuck
  | n + 1, ρ, S => tstM (c ρ S) ρ fun S1 => stepD (whileD c body n) (body ρ S1)
open Classical in
/-- with as many turns as are needed -/
noncomputable def whileW (c : En → M Bool) (body : SM) : SM := fun ρ S => if h : ∃ n, whileD c body n ρ S ≠ .stuck then whileD c body (Classical.choose h) ρ S else .stuck
theorem whileD_more {c : En → M Bool} {body : SM} : ∀ (n m : Nat) (ρ : En) (S : Cells), whileD c body n ρ S ≠ .stuck → n ≤ m → whileD c body m ρ S = whileD c body n ρ S
  | 0, _, ρ, S, h, _ => absurd rfl h
  | n + 1, 0, ρ, S, h, hm => by omega
  | n + 1, m + 1, ρ, S, h, hm => by
    have h : tstM (c ρ S) ρ (fun S1 => stepD (whileD c body n) (body ρ S1)) ≠ .stuck := h
    show tstM (c ρ S) ρ (fun S1 => stepD (whileD c body m) (body ρ S1)) = tstM (c ρ S) ρ (fun S1 => stepD (whileD c body n) (body ρ S1))
    cases e : c ρ S with
    | ok b S1 =>
      rw [e] at h
      cases b with
      | false => rfl
      | true =>
        have h : stepD (whileD c body n) (body ρ S1) ≠ .stuck := h
        show stepD (whileD c body m) (body ρ S1) = stepD (whileD c body n) (body ρ S1)
        cases eb : body ρ S1 with
        | nx ρ2 S2 =>
          rw [eb] at h
          exact whileD_more n m ρ2 S2 h (by omega)
        | ct ρ2 S2 =>
          rw [eb] at h
          exact whileD_more n m ρ2 S2 h (by omega)
        | bk ρ2 S2 => rfl
        | rt d S2 => rfl
        | er x ρ2 S2 => rfl
        | stuck => rfl
    | err x S1 => rfl
    | stuck => rfl
theorem whileW_of {c : En → M Bool} {body : SM} {n : Nat} {ρ : En} {S : Cells} {o : Out} (h : whileD c body n ρ S = o) (ho : o ≠ .stuck) : whileW c body ρ S = o := by
  have hn : whileD c body n ρ S ≠ .stuck := by rw [h]; exact ho
  have hx : ∃ n, whileD c body n ρ S ≠ .stuck := ⟨n, hn⟩
  unfold whileW
  rw [dif_pos hx]
  have h2 := Classical.choose_spec hx
  rcases Nat.le_total (Classical.choose hx) n with hle | hle
  · rw [← whileD_more _ n ρ S h2 hle]
    exact h
  · rw [whileD_more n _ ρ S hn hle]
    exact h
section
variable {X : Cx} {T : Tab} {EE : XX} {c : Expr} {tc : En → M Bool} {body : List Stmt} {B : SM} {pos : Pos}
theorem es_while (hp : PassesOwn (model X.prog X.w) X.A X.env X.xe) (hc : EvT X T EE c tc) (hb : EvSs X T EE body B) : EvS X T EE (.While c body [] pos) (whileW tc B) := by
  refine ⟨(ps_while hp hc.pt hb.ps).dimp fun Dn σ H h => ?_⟩
  obtain ⟨γ, hid, S, ρ, hold, env, h⟩ := h
  refine ⟨fun m σ' H' => ∃ γ2 S2 ρ2, Hold X.K T γ2 hid S2 H' ∧ EnvR X.K T γ2 (out γ2 S2 hid H') ρ2 σ' ∧ whileD tc B m ρ2 S2 ≠ .stuck ∧ resS X.K T EE γ2 hid S2 H' (whileD tc B m ρ2 S2) Dn, ?_, ?_⟩
  · unfold whileW at h
    split at h
    · rename_i hx
      exact ⟨_, γ, S, ρ, hold, env, Classical.choose_spec hx, h⟩
    · exact h.elim
  · rintro m σ' H' ⟨γ2, S2, ρ2, w1, w2, w3, w4⟩
    cases m with
    | zero => exact absurd rfl w3
    | succ m =>
      refine (show dG X.K T EE repB tc σ' H' _ from ?_)
      refine ⟨γ2, hid, S2, ρ2, w1, w2, ?_⟩
      have w3 : tstM (tc ρ2 S2) ρ2 (fun S1 => stepD (whileD tc B m) (B ρ2 S1)) ≠ .stuck := w3
      have w4 : resS X.K T EE γ2 hid S2 H' (tstM (tc ρ2 S2) ρ2 (fun S1 => stepD (whileD tc B m) (B ρ2 S1))) Dn := w4
      cases e : tc ρ2 S2 with
      | ok b S3 =>
        rw [e] at w3 w4
        intro γ3 H3 b' a1 a2 a3
        have a3' : b = b' := a3
        subst a3'
        have env3 := w2.mono a2.pre (a2.sameH hid)
        cases b with
        | false =>
          rw [if_neg Bool.false_ne_true]
          exact w4 γ3 H3 σ' a1 a2 env3
        | true =>
          rw [if_pos rfl]
          refine ⟨fun σ4 H4 => ∃ γ2 S2 ρ2, Hold X.K T γ2 hid S2 H4 ∧ EnvR X.K T γ2 (out γ2 S2 hid H4) ρ2 σ4 ∧ whileD tc B m ρ2 S2 ≠ .stuck ∧ resS X.K T EE γ2 hid S2 H4 (whileD tc B m ρ2 S2) Dn, fun σ4 H4 hN => ⟨m, Nat.lt_succ_self _, hN⟩, γ3, hid, S3, ρ2, a1, env3, ?_⟩
          have w3 : stepD (whileD tc B m) (B ρ2 S3) ≠ .stuck := w3
          have w4 : resS X.K T EE γ2 hid S2 H' (stepD (whileD tc B m) (B ρ2 S3)) Dn := w4
          have w4' := w4.base a2
          cases eb : B ρ2 S3 with
          | nx ρ5 S5 =>
            rw [eb] at w3 w4'
            exact fun γ' H4 σ5 b1 b2 b3 => ⟨γ', S5, ρ5, b1, b3, w3, w4'.base b2⟩
          | ct ρ5 S5 =>
            rw [eb] at w3 w4'
            exact fun γ' H4 σ5 b1 b2 b3 => ⟨γ', S5, ρ5, b1, b3, w3, w4'.base b2⟩
          | bk ρ5 S5 =>
            rw [eb] at w4'
            exact fun γ' H4 σ5 b1 b2 b3 => w4' γ' H4 σ5 b1 b2 b3
          | rt d5 S5 =>
            rw [eb] at w4'
            exact w4'
          | er x5 ρ5 S5 =>
            rw [eb] at w4'
            exact w4'
          | stuck =>
            rw [eb] at w3
            exact absurd rfl w3
      | err x S3 =>
        rw [e] at w4
        exact fun γ3 H3 a1 a2 => w4 γ3 H3 σ' a1 a2 (w2.mono a2.pre (a2.sameH hid))
      | stuck =>
        rw [e] at w3
        exact absurd rfl w3
end
end DL
end
section
set_option maxHeartbeats 2000000
/-! DLcg: a def's promise where no repr is under way (repr of lists asks who is being written). -/
namespace DL
open PySem PySem.Spec L2
open PyProof.Rows hiding St
abbrev NoRepr (A : Around) : Prop := A.guards = some []
structure FnG (P : Program) (w : World) (K : PySem.W.Frag) (mg : Str → Option Value) (base : Heap) (k : Nat) (f : Addr) (fd : FuncData) (ps : List Str) (sp : Sp) : Prop where
  len : ∀ vs H Q E, sp vs H Q E → vs.length = ps.length
  run : ∀ (A : Around) (outer : List Env) (s : Shared) (H : Hp) (args : Args) (us : List Value) (vs : List V) (Q : VK) (E : XK), Room k A → NoRepr A →
    Env0 P w K mg base A outer s H → BindsTo s fd args (ps.zip us) → Vals vs us → sp vs H Q E → codeAny (model P w) A (.call (.ref f) args) (CR CX0 outer P w H s Q E) s
theorem FnG.mono {P : Program} {w : World} {K : PySem.W.Frag} {mg : Str → Option Value} {base : Heap} {j k : Nat} {f : Addr} {fd : FuncData} {ps : List Str} {sp : Sp} (F : FnG P w K mg base j f fd ps sp) (h : j ≤ k) : FnG P w K mg base k f fd ps sp :=
  ⟨F.len, fun A outer s H args us vs Q E hr => F.run A outer s H args us vs Q E (hr.mono h)⟩
theorem FnG.imp {P : Program} {w : World} {K : PySem.W.Frag} {mg : Str → Option Value} {base : Heap} {k : Nat} {f : Addr} {fd : FuncData} {ps : List Str} {sp sp' : Sp} (F : FnG P w K mg base k f fd ps sp) (i : ∀ vs H Q E, sp' vs H Q E → sp vs H Q E) :
    FnG P w K mg base k f fd ps sp' :=
  ⟨fun vs H Q E z => F.len vs H Q E (i _ _ _ _ z), fun A outer s H args us vs Q E a b c d e g => F.run A outer s H args us vs Q E a b c d e (i _ _ _ _ g)⟩
theorem deeper_guards {A : Around} {env : Env} : (A.deeper env).guards = A.guards := rfl
section
variable {P : Program} {w : World} {K : PySem.W.Frag} {mg : Str → Option Value} {base : Heap}
theorem fng_ok {x qual : Str} {params : Arguments} {body : List Stmt} {scope : Scope} {dvs : List V} {kws : List (Str × V)} {f : Addr} {fd : FuncData} {N ps : List Str} {k : Nat} {sp : Sp} (F : FunD K x qual params body scope dvs kws f fd) (S : FnScope N ps scope) (len : ∀ vs H Q E, sp vs H Q E → vs.length = ps.length)
    (hbody : ∀ (cdv : Value) (A : Around) (outer : List Env) (s : Shared) (H : Hp) (vs : List V) (Q : VK) (E : XK), Room k (A.deeper (envOfC qual scope s.heap.objs.size f cdv)) → NoRepr (A.deeper (envOfC qual scope s.heap.objs.size f cdv)) → sp vs H Q E →
      ∃ t, PSs (cxOf CX0 P w K mg base N qual scope f cdv A outer s H E).nox body t ∧ t { nx := fun _ H' => Q .non H', rt := Q } (L2.start N vs) H) : FnG P w K mg base (k + 1) f fd ps sp := by
  obtain ⟨oc, od, dV, kV, doc, pm, an, cdv, ct, osl, rfl, lk, hcd, _, _⟩ := F.ex
  refine ⟨len, fun A outer s H args us vs Q E room nr ev bd rv promise => ?_⟩
  have vl := len _ _ _ _ promise
  have kin : K.In s.heap := ev.mod.kin.keeps fun b o e => (ev.bs b o e).1
  have nl : s.heap.NoLimit := ev.mod.nolimit.keeps fun b o e => (ev.bs b o e).1
  have kinds : ∀ y ∈ ps.zip us, scope.names.lookup y.1 = some .local ∨ (scope.names.lookup y.1 = some .cell ∧ ((cellsFrom (s.heap.objs.size + 1) scope.names []).lookup y.1).isSome = true) := fun ⟨m, v⟩ hm => by
    cases S.par m (List.of_mem_zip hm).1 with
    | inl z => exact .inl z
    | inr z => exact .inr ⟨z, PySem.W.cellsFrom_some _ _ _ (.inl z)⟩
  refine codeAny_call_function room.depth (kin _ _ lk) rfl S.co S.gen rfl (PySem.W.codeRec_of kin hcd) (bd _ _ _ _ ?_)
  refine wpAny_newFunctionEnv_cells S.kind kinds fun env ee s1 ic => ?_
  subst ee
  refine ⟨nl.keeps ic.toInCall.keep, codeAny_func ?_⟩
  obtain ⟨t, ht, reading⟩ := hbody cdv A outer s H vs Q E (room.deeper _) nr promise
  have I0 : Inv (cxOf CX0 P w K mg base N qual scope f cdv A outer s H E) [] (L2.start N vs) H s1 := inv_start S room.hd ev vl rv ic
  refine wpAny_mono (ht.nox.run [] s1 (L2.start N vs) H _ I0 reading) (fun flow s' hs => ?_) fun e s' hs => hs
  cases flow with
  | ret u =>
    obtain ⟨v, σ', H', J, r, z⟩ := hs
    exact ⟨v, H', J.os, J.bare, J.base, J.hok, r, z⟩
  | next =>
    obtain ⟨σ', H', J, z⟩ := hs
    exact ⟨V.non, H', J.os, J.bare, J.base, J.hok, rfl, z⟩
  | brk =>
    obtain ⟨_, _, _, z⟩ := hs
    exact z.elim
  | cont =>
    obtain ⟨_, _, _, z⟩ := hs
    exact z.elim
end
section
variable {X : Cx} {k : Nat} {f C : Addr} {fd : FuncData} {ps : List Str} {sp : Sp} {x m : Str} {p pos apos : Pos} {e o : Expr} {es : List Expr} {ta : TE} {t : TA} {E : XK}
theorem rung {pins : List (Addr × Obj)} {σ : St} {H : Hp} {s : Shared} {Q : VK} {us : List Value} {vs : List V} (F : FnG X.prog X.w X.K X.mg X.base k f fd ps sp) (hr : Room k X.A) (nr : NoRepr X.A) (hb : Binds X.K fd ps [])
    (I : Inv X pins σ H s) (r : Vals vs us) (h : sp vs H Q E) : wpAny (model X.prog X.w) X.A (call (.ref f) us) (EP X pins σ Q) X.xe s := by
  have hl : us.length = ps.length := by rw [← r.length]; exact F.len _ _ _ _ h
  have hb' := hb s us I.kIn (by rw [List.append_nil]; exact hl)
  rw [List.append_nil] at hb'
  refine wpAny_call (codeAny_mono (F.run X.A X.stack s H ⟨us, []⟩ us vs Q E hr nr I.env0 hb' r h) fun res s' z => ?_)
  cases res with
  | error e => exact z.elim
  | ok flow =>
    cases flow with
    | ret u => exact I.after z
    | next => exact False.elim z
    | brk => exact False.elim z
    | cont => exact False.elim z
theorem pg_call (F : FnG X.prog X.w X.K X.mg X.base k f fd ps sp) (hr : Room k X.A) (nr : NoRepr X.A) (hg : Gl X x) (hm : X.mg x = some (.ref f)) (hk : PySem.W.keepIn X.K (.ref f) = true) (hb : Binds X.K fd ps [])
    (ha : PA X (e :: es) t) (hdb : (x == ("__debug__" : Str)) = false := by decide) (he : starEach (e :: es) X.env = (false, eval e X.env) :: starEach es X.env := by rfl) (hpl : (backTo pos (starEach es X.env)).any (·.1) = false := by rfl) :
    PE X (.Call (.Name x p) (e :: es) [] pos) (tCall sp [] E t) := by
  refine ⟨fun pins s σ H Q I h => wpAny_Call_Name_kw (ld_glob I hg hm ?_ hdb)⟩
  refine PySem.W.callWith_K (h₀ := X.base) I.ok.mod.kin hk (thn (ha.run pos pins s σ H _ I h) fun us s1 ⟨vs, H1, I1, r, z⟩ => ⟨I1.kIn, ?_⟩) he hpl
  have z : sp (vs ++ []) H1 Q E := z
  rw [List.append_nil] at z
  exact rung F hr nr hb I1 r z
theorem pg_call0 (F : FnG X.prog X.w X.K X.mg X.base k f fd ps sp) (hr : Room k X.A) (nr : NoRepr X.A) (hg : Gl X x) (hm : X.mg x = some (.ref f)) (hk : PySem.W.keepIn X.K (.ref f) = true) (hb : Binds X.K fd ps [])
    (hdb : (x == ("__debug__" : Str)) = false := by decide) : PE X (.Call (.Name x p) [] [] pos) (tCall sp [] E tNil) := by
  refine ⟨fun pins s σ H Q I h => wpAny_Call_Name_kw (ld_glob I hg hm ?_ hdb)⟩
  exact PySem.W.callWith_K0 I.kIn hk (rung (us := []) F hr nr hb I .nil h)
/-- o.m(e, ..) of an instance of a class of the text -/
theorem pg_meth {pl : Sem Bool} (he : PE X o ta) (c : Cls X.K C) (hm : Meth X.K C m f) (F : FnG X.prog X.w X.K X.mg X.base k f fd ps sp) (hr : Room k X.A) (nr : NoRepr X.A) (hb : Binds X.K fd ps []) (ha : PA X (e :: es) t)
    (hst : starEach (e :: es) X.env = (false, eval e X.env) :: starEach es X.env := by rfl) (hpl : (backTo pos (starEach es X.env)).any (·.1) = false := by rfl)
    (ht : eval (.Call (.Attribute o m apos) (e :: es) [] pos) X.env = (do
      let recv ← eval o X.env
      standAt apos.atName
      let (g, h) ← holding [recv] (getMethod recv m pl)
      callWith pos g h (backTo pos (starEach (e :: es) X.env)) (backToKw pos (keywordEach [] X.env))) := by rfl) :
    PE X (.Call (.Attribute o m apos) (e :: es) [] pos) (tMeth C m sp [] E ta t) := by
  refine ⟨fun pins s σ H Q I h => PySem.W.methodCall_KW (pl := pl) (thn (he.run pins s σ H _ I h) fun u s1 ⟨x, H1, I1, rx, a, dx, fs, ex, ea, l, z⟩ => ?_) ht⟩
  subst ex
  obtain rfl : u = Value.ref a := rx
  refine getmeth_ok I1 ea c hm l (PySem.W.callWith_K (first := [.ref a]) (h₀ := X.base) I.ok.mod.kin hm.kp (thn (ha.run pos pins s1 σ H1 _ I1 z) fun us s2 ⟨vs, H2, I2, r, z2⟩ => ⟨I2.kIn, ?_⟩) hst hpl)
  have z2 : sp (.ref a :: (vs ++ [])) H2 Q E := z2
  rw [List.append_nil] at z2
  exact rung (us := .ref a :: us) (vs := .ref a :: vs) F hr nr hb I2 (.cons rfl r) z2
theorem pg_meth0 {pl : Sem Bool} (he : PE X o ta) (c : Cls X.K C) (hm : Meth X.K C m f) (F : FnG X.prog X.w X.K X.mg X.base k f fd ps sp) (hr : Room k X.A) (nr : NoRepr X.A) (hb : Binds X.K fd ps [])
    (ht : eval (.Call (.Attribute o m apos) [] [] pos) X.env = (do
      let recv ← eval o X.env
      standAt apos.atName
      let (g, h) ← holding [recv] (getMethod recv m pl)
      callWith pos g h (backTo pos (starEach [] X.env)) (backToKw pos (keywordEach [] X.env))) := by rfl) :
    PE X (.Call (.Attribute o m apos) [] [] pos) (tMeth C m sp [] E ta tNil) := by
  refine ⟨fun pins s σ H Q I h => PySem.W.methodCall_KW (pl := pl) (thn (he.run pins s σ H _ I h) fun u s1 ⟨x, H1, I1, rx, a, dx, fs, ex, ea, l, z⟩ => ?_) ht⟩
  subst ex
  obtain rfl : u = Value.ref a := rx
  exact getmeth_ok I1 ea c hm l (PySem.W.callWith_K0 (first := [.ref a]) I1.kIn hm.kp (rung (us := [.ref a]) (vs := [.ref a]) F hr nr hb I1 (.cons rfl .nil) z))
/-- C(..) of a class of the text with an __init__ -/
theorem rung_make {pins : List (Addr × Obj)} {σ : St} {H : Hp} {s : Shared} {Q : VK} {us : List Value} {vs : List V} (M : Mk X.K C f) (F : FnG X.prog X.w X.K X.mg X.base k f fd ps sp) (hr : Room (k + 1) X.A) (nr : NoRepr X.A) (hb : Binds X.K fd ps []) (I : Inv X pins σ H s) (r : Vals vs us)
    (h : ∀ x dx, H x = none → H dx = none → dx ≠ x → sp (.ref x :: vs) (upd (upd H dx (.own x)) x (.ins C dx [])) (fun v H2 => v = .non ∧ Q (.ref x) H2) E) :
    wpAny (model X.prog X.w) X.A (call (.ref C) us) (EP X pins σ Q) X.xe s := by
  have z0 := h (s.heap.objs.size + 1) s.heap.objs.size (I.hok.fresh (Nat.le_succ _)) (I.hok.fresh (Nat.le_refl _)) (Nat.ne_of_lt (Nat.lt_succ_self _))
  have I2 := Inv.made (C := C) I
  have r2 : Vals (V.ref (s.heap.objs.size + 1) :: vs) (Value.ref (s.heap.objs.size + 1) :: us) := .cons rfl r
  have hl : (Value.ref (s.heap.objs.size + 1) :: us).length = ps.length := by
    rw [← r2.length]
    exact F.len _ _ _ _ z0
  have hb' := hb _ (Value.ref (s.heap.objs.size + 1) :: us) I2.kIn (by rw [List.append_nil]; exact hl)
  rw [List.append_nil] at hb'
  refine wpAny_call (make_map (f := f) I.kIn M.makes M.init (beq_iff_eq.mp M.fn) (codeAny_mono (F.run _ X.stack _ _ ⟨Value.ref (s.heap.objs.size + 1) :: us, []⟩ (Value.ref (s.heap.objs.size + 1) :: us) _ _ E (hr.make C us [])
    ?nr (I2.env0.make C us []) hb' r2 z0) fun res s' z => ?_))
  case nr =>
    show (X.A.under (.builtin "type.__call__" ⟨.ref C :: us, []⟩)).guards = some []
    have e : (X.A.under (.builtin "type.__call__" ⟨.ref C :: us, []⟩)).guards = X.A.guards := by
      show pushGuards (Code.guards (.builtin "type.__call__" ⟨.ref C :: us, []⟩)) X.A.guards = X.A.guards
      have g : Code.isGuard (.builtin "type.__call__" ⟨.ref C :: us, []⟩) = false := by
        show guardIds.contains "type.__call__" = false
        decide
      unfold Code.guards
      rw [g]
      rfl
    rw [e]
    exact nr
  cases res with
  | error e => exact z.elim
  | ok flow =>
    cases flow with
    | ret u =>
      obtain ⟨v, H', I3, rv, ev, z3⟩ := I2.after z
      subst ev
      exact ⟨rv, ⟨V.ref (s.heap.objs.size + 1), H', I3, rfl, z3⟩⟩
    | next => exact False.elim z
    | brk => exact False.elim z
    | cont => exact False.elim z
theorem pg_make (M : Mk X.K C f) (F : FnG X.prog X.w X.K X.mg X.base k f fd ps sp) (hr : Room (k + 1) X.A) (nr : NoRepr X.A) (hg : Gl X x) (hm : X.mg x = some (.ref C)) (hb : Binds X.K fd ps [])
    (ha : PA X (e :: es) t) (hdb : (x == ("__debug__" : Str)) = false := by decide) (he : starEach (e :: es) X.env = (false, eval e X.env) :: starEach es X.env := by rfl) (hpl : (backTo pos (starEach es X.env)).any (·.1) = false := by rfl) :
    PE X (.Call (.Name x p) (e :: es) [] pos) (tMake C sp [] E t) := by
  refine ⟨fun pins s σ H Q I h => wpAny_Call_Name_kw (ld_glob I hg hm ?_ hdb)⟩
  refine PySem.W.callWith_K (h₀ := X.base) I.ok.mod.kin M.kp (thn (ha.run pos pins s σ H _ I h) fun us s1 ⟨vs, H1, I1, r, z⟩ => ⟨I1.kIn, ?_⟩) he hpl
  have z : ∀ x dx, H1 x = none → H1 dx = none → dx ≠ x → sp (.ref x :: (vs ++ [])) (upd (upd H1 dx (.own x)) x (.ins C dx [])) (fun v H2 => v = .non ∧ Q (.ref x) H2) E := z
  rw [List.append_nil] at z
  exact rung_make M F hr nr hb I1 r z
end
end DL
end
section
set_option maxHeartbeats 2000000
/-! DLd: comprehensions, what a def promises, calls. -/
namespace DL
open PySem PySem.Spec L2
open PyProof.Rows hiding St

def wipeD (ρ : En) : List Nat → En
  | [] => ρ
  | v :: vs => (wipeD ρ vs).set v none
theorem wipeD_get (ρ : En) : ∀ (vs : List Nat) (j : Nat), (wipeD ρ vs)[j]? = if j ∈ vs then (if j < ρ.length then some none else none) else ρ[j]?
  | [], j => by simp [wipeD]
  | v :: vs, j => by
    have hl : ∀ vs : List Nat, (wipeD ρ vs).length = ρ.length := fun vs => by
      induction vs with
      | nil => rfl
      | cons v vs ih => unfold wipeD; rw [List.length_set, ih]
    unfold wipeD
    rw [List.getElem?_set, wipeD_get ρ vs j, hl]
    by_cases h : v = j
    · subst h
      simp
    · simp [h, Ne.symm h]
theorem wipeD_length (ρ : En) : ∀ vs : List Nat, (wipeD ρ vs).length = ρ.length
  | [] => rfl
  | v :: vs => by unfold wipeD; rw [List.length_set, wipeD_length ρ vs]
theorem EnvR.wipe {K : PySem.W.Frag} {T : Tab} {γ : List Addr} {F : Hp} {ρ : En} {σ : St} (e : EnvR K T γ F ρ σ) (vs : List Nat) : EnvR K T γ F (wipeD ρ vs) (wipe σ vs) := by
  refine ⟨by rw [wipeD_length, wipe_length, e.len], fun i d h => ?_⟩
  rw [wipeD_get] at h
  by_cases hi : i ∈ vs
  · rw [if_pos hi] at h
    split at h <;> cases h
  · rw [if_neg hi] at h
    obtain ⟨v, h1, h2⟩ := e.get i d h
    exact ⟨v, by rw [wipe_get, if_neg hi]; exact h1, h2⟩
/-- nothing is raised in a comprehension -/
def calmM {α : Type} (f : M α) : M α := fun S => match f S with
  | .ok a S' => .ok a S'
  | .err _ _ => .stuck
  | .stuck => .stuck
theorem calm_of {α : Type} {f : M α} {S S' : Cells} {a : α} (e : f S = .ok a S') : calmM f S = .ok a S' := by
  unfold calmM
  rw [e]
def putC {α : Type} (o : Option En) (k : En → M α) : M α := match o with
  | some ρ => k ρ
  | none => fun _ => .stuck
def compD (p : Pat) (ft : En → M Bool) (fe : En → M D) (ρ : En) : List D → M (List D)
  | [] => fun S => .ok [] S
  | d :: ds => putC (p.put d ρ) fun ρ1 => M.bind (calmM (ft ρ1)) fun b => if b = true then M.bind (calmM (fe ρ1)) fun y => M.bind (compD p ft fe ρ ds) fun l S => .ok (y :: l) S else compD p ft fe ρ ds
structure EvTs (X : Cx) (T : Tab) (EE : XX) (ifs : List Expr) (f : En → M Bool) : Prop where
  pts : PTs X ifs (dT X.K T EE f)
theorem _root_.L2.PTs.dimp {X : Cx} {e : List Expr} {t t' : TT} (h : PTs X e t) (i : ∀ σ H Q, t' σ H Q → t σ H Q) : PTs X e t' := ⟨fun pins s σ H Q I q => h.run pins s σ H Q I (i _ _ _ q)⟩
section
variable {X : Cx} {T : Tab} {EE : XX}
def yesM : M Bool := fun S => .ok true S
theorem ets_nil : EvTs X T EE [] (fun _ => yesM) := ⟨pts_nil.dimp fun σ H Q h => by
  obtain ⟨γ, hid, S, ρ, hold, env, h⟩ := h
  exact h γ H true hold (Ext.refl _ _ _) rfl⟩
theorem ets_one {c : Expr} {f : En → M Bool} (h : EvT X T EE c f) : EvTs X T EE [c] f := ⟨pts_one h.pt⟩
/-- an address is taken out -/
def era (H : Hp) (p : Addr) : Hp := fun b => if b = p then none else H b
theorem era_same {H : Hp} {p : Addr} : era H p p = none := by unfold era; rw [if_pos rfl]
theorem era_ne {H : Hp} {p b : Addr} (h : b ≠ p) : era H p b = H b := by unfold era; rw [if_neg h]
theorem era_upd {H : Hp} {p : Addr} {o : HO} (h : H p = some o) : upd (era H p) p o = H := by
  funext b
  by_cases e : b = p
  · subst e
    rw [upd_same, h]
  · rw [upd_ne e, era_ne e]
theorem out_era {γ : List Addr} {S : Cells} {hid : List Addr} {H : Hp} {p : Addr} (b : Addr) : out γ S hid (era H p) b = out γ S (p :: hid) H b := by
  unfold out era
  by_cases e : b = p
  · simp [e]
  · simp [e]
theorem Hold.unhide {K : PySem.W.Frag} {γ hid : List Addr} {S : Cells} {H : Hp} {p : Addr} (h : Hold K T γ (p :: hid) S H) (hp : p ∉ hid) : Hold K T γ hid S (era H p) := by
  refine ⟨h.len, h.nd, fun n a c e1 e2 => ?_, fun a ha => ?_, fun a ha => h.hidG a (List.mem_cons_of_mem _ ha)⟩
  · obtain ⟨o, ho, r⟩ := h.cell n a c e1 e2
    have ne : a ≠ p := fun z => h.hidG p List.mem_cons_self (z ▸ List.mem_of_getElem? e1)
    exact ⟨o, by rw [era_ne ne]; exact ho, r.mono fun b u hb => by rw [out_era]; exact hb⟩
  · have ne : a ≠ p := fun z => hp (z ▸ ha)
    rw [era_ne ne]
    exact h.hidT a (List.mem_cons_of_mem _ ha)
/-- what has been made is put ahead -/
def preR (acc : List D) : DL.R (List D) → DL.R (List D)
  | .ok l S => .ok (acc ++ l) S
  | .err x S => .err x S
  | .stuck => .stuck
theorem preR_nil (r : DL.R (List D)) : preR [] r = r := by cases r <;> rfl
theorem preR_app (a b : List D) (r : DL.R (List D)) : preR a (preR b r) = preR (a ++ b) r := by
  cases r <;> simp [preR]
theorem bind_pre {f : M (List D)} {y : D} {S : Cells} : (M.bind f fun l S => .ok (y :: l) S) S = preR [y] (f S) := by
  unfold M.bind
  cases f S <;> rfl
/-- THE READING of a comprehension -/
theorem lc_ok {K : PySem.W.Frag} {fi : En → M (List D)} {p : Pat} {ft : En → M Bool} {fe : En → M D} {vs : List Nat} {σ : St} {H : Hp} {Q : VK} (hsl : ∀ i ∈ p.slots, i ∈ vs)
    (h : dL K T EE (fun ρ => M.bind (fi ρ) fun items => compD p ft fe (wipeD ρ vs) items) σ H Q) : tLc (dI K T EE fi) (p.tg K) (dT K T XX0 ft) (dE K T XX0 fe) vs σ H Q := by
  refine (show dG K T EE (repI K T) fi σ H _ from ?_)
  obtain ⟨_, _, _, _, h1, h2, h3⟩ := bindD (rep := repI K T) h
  refine ⟨_, _, _, _, h1, h2, h3.imp fun J H1 ⟨items, γ1, hid, S1, ρ1, q1, q3, q4, q5⟩ D nD => ?_⟩
  obtain ⟨z, q4⟩ := q4
  obtain ⟨hh, sm0⟩ := q1.hide nD (.lst [])
  have nDh : D ∉ hid := (q1.fresh nD).2
  have smI : Same (out γ1 S1 [] H1) (out γ1 S1 [D] (upd H1 D (.lst []))) := fun b o hb => by
    obtain ⟨a1, a2, a3⟩ := out_some.mp hb
    have ne := ne_of_none a3 nD
    exact out_some.mpr ⟨by simp [ne], a2, by rw [upd_ne ne]; exact a3⟩
  have envw := (q3.wipe vs)
  refine ⟨fun i m H' => m = items.length - i ∧ i ≤ items.length ∧ ∃ γ2 S2 accd acc, Hold K T γ2 (D :: hid) S2 H' ∧ (∀ (n : Nat) (a : Addr), γ1[n]? = some a → γ2[n]? = some a) ∧ Same (out γ1 S1 [] H1) (out γ2 S2 [D] H') ∧ Same (out γ1 S1 hid H1) (out γ2 S2 (D :: hid) H') ∧
      H' D = some (.lst acc) ∧ acc.length ≤ i ∧ RpL K T γ2 (out γ2 S2 (D :: hid) H') accd acc ∧ compD p ft fe (wipeD ρ1 vs) items S1 = preR accd (compD p ft fe (wipeD ρ1 vs) (items.drop i) S2),
    ⟨items.length, by simp, Nat.zero_le _, γ1, S1, [], [], hh, fun _ _ z => z, smI, sm0, upd_same, Nat.le_refl _, .nil, by rw [preR_nil, List.drop_zero]⟩, ?_⟩
  rintro i m H' ⟨rfl, hi, γ2, S2, accd, acc, w1, w2, w3, w4, w5, w6, w7, w8⟩
  obtain ⟨g1, g2, g3⟩ := q4 γ2 (D :: hid) S2 H' w2 w4 w1
  by_cases hlt : i < items.length
  · refine .inr ⟨g1 i hlt, fun H3 => i + 1 ≤ items.length ∧ ∃ γ2 S2 accd acc, Hold K T γ2 (D :: hid) S2 H3 ∧ (∀ (n : Nat) (a : Addr), γ1[n]? = some a → γ2[n]? = some a) ∧ Same (out γ1 S1 [] H1) (out γ2 S2 [D] H3) ∧ Same (out γ1 S1 hid H1) (out γ2 S2 (D :: hid) H3) ∧
        H3 D = some (.lst acc) ∧ acc.length ≤ i + 1 ∧ RpL K T γ2 (out γ2 S2 (D :: hid) H3) accd acc ∧ compD p ft fe (wipeD ρ1 vs) items S1 = preR accd (compD p ft fe (wipeD ρ1 vs) (items.drop (i + 1)) S2), fun H3 hN => ⟨items.length - (i + 1), by omega, rfl, hN⟩, fun x H3 y => ?_⟩
    obtain ⟨d, e1, k1, k2, k3⟩ := g3 i x H3 hlt y
    have ed : items.drop i = d :: items.drop (i + 1) := by
      rw [List.drop_eq_getElem_cons hlt]
      have := (List.getElem?_eq_some_iff.mp e1).2
      rw [this]
    have key : compD p ft fe (wipeD ρ1 vs) items S1 = preR accd (putC (p.put d (wipeD ρ1 vs)) (fun ρ1' => M.bind (calmM (ft ρ1')) fun b => if b = true then M.bind (calmM (fe ρ1')) fun y => M.bind (compD p ft fe (wipeD ρ1 vs) (items.drop (i + 1))) fun l S => .ok (y :: l) S else compD p ft fe (wipeD ρ1 vs) (items.drop (i + 1))) S2) := by
      rw [w8, ed]
      rfl
    -- the result is wanted, so no step is stuck
    have q5' : resG K T EE (repL K T) γ1 hid S1 H1 ρ1 σ (compD p ft fe (wipeD ρ1 vs) items S1) (fun vs H' => ∀ p, H' p = none → Q (.ref p) (upd H' p (.lst vs))) := q5
    rw [key] at q5'
    cases ep : p.put d (wipeD ρ1 vs) with
    | none =>
      rw [ep] at q5'
      exact q5'.elim
    | some ρ3 =>
      rw [ep] at q5' key
      have q5' : resG K T EE (repL K T) γ1 hid S1 H1 ρ1 σ (preR accd ((M.bind (calmM (ft ρ3)) fun b => if b = true then M.bind (calmM (fe ρ3)) fun y => M.bind (compD p ft fe (wipeD ρ1 vs) (items.drop (i + 1))) fun l S => .ok (y :: l) S else compD p ft fe (wipeD ρ1 vs) (items.drop (i + 1))) S2)) (fun vs H' => ∀ p, H' p = none → Q (.ref p) (upd H' p (.lst vs))) := q5'
      have key : compD p ft fe (wipeD ρ1 vs) items S1 = preR accd ((M.bind (calmM (ft ρ3)) fun b => if b = true then M.bind (calmM (fe ρ3)) fun y => M.bind (compD p ft fe (wipeD ρ1 vs) (items.drop (i + 1))) fun l S => .ok (y :: l) S else compD p ft fe (wipeD ρ1 vs) (items.drop (i + 1))) S2) := key
      have env2 : EnvR K T γ2 (out γ2 S2 (D :: hid) H3) (wipeD ρ1 vs) (wipe σ vs) := (envw.mono w2 w4).mono k2.pre (k2.sameH _)
      refine put_ok (out_sub _ _ _ _) p d x (wipeD ρ1 vs) ρ3 (wipe σ vs) _ env2 k3 ep fun σ4 n1 n2 => ⟨by rw [n2 vs hsl, wipe_wipe], ?_⟩
      refine (show dG K T XX0 repB ft σ4 H3 _ from ?_)
      refine ⟨γ2, D :: hid, S2, ρ3, k1, n1, ?_⟩
      cases et : ft ρ3 S2 with
      | err x5 S5 =>
        rw [bind_of_stuck (by unfold calmM; rw [et])] at q5'
        exact q5'.elim
      | stuck =>
        rw [bind_of_stuck (by unfold calmM; rw [et])] at q5'
        exact q5'.elim
      | ok b S5 =>
        rw [bind_of_ok (calm_of et)] at q5' key
        intro γ5 H5 b' a1 a2 a3
        have a3' : b = b' := a3
        subst a3'
        have w5' : H5 D = some (.lst acc) := a2.hid k1 List.mem_cons_self (k2.hid w1 List.mem_cons_self w5)
        cases b with
        | false =>
          rw [if_neg Bool.false_ne_true] at q5' key
          rw [if_neg Bool.false_ne_true]
          exact ⟨hlt, γ5, S5, accd, acc, a1, fun n a z => a2.pre n a (k2.pre n a (w2 n a z)), (w3.trans (k2.sameH _)).trans (a2.sameH _), (w4.trans (k2.sameH _)).trans (a2.sameH _), w5', by omega, a2.rpl (k2.rpl w7), key⟩
        | true =>
          rw [if_pos rfl] at q5' key
          rw [if_pos rfl]
          refine (show dG K T XX0 (repE K T) fe σ4 H5 _ from ?_)
          refine ⟨γ5, D :: hid, S5, ρ3, a1, n1.mono a2.pre (a2.sameH _), ?_⟩
          cases ee : fe ρ3 S5 with
          | err x6 S6 =>
            rw [bind_of_stuck (by unfold calmM; rw [ee])] at q5'
            exact q5'.elim
          | stuck =>
            rw [bind_of_stuck (by unfold calmM; rw [ee])] at q5'
            exact q5'.elim
          | ok yd S6 =>
            rw [bind_of_ok (calm_of ee)] at q5' key
            intro γ6 H6 y' c1 c2 c3
            have w6' : H6 D = some (.lst acc) := c2.hid a1 List.mem_cons_self w5'
            obtain ⟨r1, r2⟩ := c1.rewrite (p := D) List.mem_cons_self (.lst (acc ++ [y']))
            have r3 : ∀ hd, D ∈ hd → Same (out γ6 S6 hd H6) (out γ6 S6 hd (upd H6 D (.lst (acc ++ [y'])))) := fun hd hD b o hb => by
              obtain ⟨b1, b2, b3⟩ := out_some.mp hb
              exact out_some.mpr ⟨b1, b2, by rw [upd_ne (fun z : b = D => b1 (by rw [z]; exact hD))]; exact b3⟩
            refine ⟨acc, w6', by omega, hlt, γ6, S6, accd ++ [yd], acc ++ [y'], r1, fun n a z => c2.pre n a (a2.pre n a (k2.pre n a (w2 n a z))), (((w3.trans (k2.sameH _)).trans (a2.sameH _)).trans (c2.sameH _)).trans (r3 _ List.mem_cons_self), (((w4.trans (k2.sameH _)).trans (a2.sameH _)).trans (c2.sameH _)).trans (r3 _ List.mem_cons_self), upd_same, by rw [List.length_append]; simp; omega, ?_, ?_⟩
            · exact RpL.mono (fun _ _ z => z) (r3 _ List.mem_cons_self) _ _ ((c2.rpl (a2.rpl (k2.rpl w7))).append (.one c3))
            · rw [key, ← preR_app]
              rw [bind_pre]
  · have e : i = items.length := by omega
    subst e
    refine .inl ⟨g2, ?_⟩
    rw [List.drop_length] at w8
    have q5' : resG K T EE (repL K T) γ1 hid S1 H1 ρ1 σ (compD p ft fe (wipeD ρ1 vs) items S1) (fun vs H' => ∀ p, H' p = none → Q (.ref p) (upd H' p (.lst vs))) := q5
    rw [w8] at q5'
    have q6 := q5' γ2 (era H' D) acc (w1.unhide nDh) ⟨w2, fun b o hb => by rw [out_era]; exact w3 b o hb⟩ ⟨?_, ?_⟩ D era_same
    · rw [era_upd w5] at q6
      exact q6
    · rw [List.append_nil, w7.length]
      omega
    · rw [List.append_nil]
      exact RpL.mono (fun _ _ z => z) (fun b o hb => by rw [out_era]; exact hb) _ _ w7
theorem evL_lc {elt tg iter : Expr} {ifs : List Expr} {scope : Scope} {own : List (Str × Nat)} {pos : Pos} {fi : En → M (List D)} {p : Pat} {ft : En → M Bool} {fe : En → M D} (hc : X.calm = true) (hN : X.N.Nodup) (hi : EvI X T EE tg iter fi) (ok : BlkOk X.N X.env.scope scope own)
    (hg : ∀ (s : Shared) (H : Hp) (C : Addr) (cl : List (Str × Addr)) (fp : List Addr), EvG (X.blk s H scope (compEnvC scope cl C X.env) fp) tg p) (ht : ∀ (s : Shared) (H : Hp) (C : Addr) (cl : List (Str × Addr)) (fp : List Addr), EvTs (X.blk s H scope (compEnvC scope cl C X.env) fp) T XX0 ifs ft)
    (he : ∀ (s : Shared) (H : Hp) (C : Addr) (cl : List (Str × Addr)) (fp : List Addr), EvE (X.blk s H scope (compEnvC scope cl C X.env) fp) T XX0 elt fe) (hsl : ∀ i ∈ p.slots, i ∈ own.map (·.2) := by decide) (hs : ∀ x, foldedSetIterable iter X.env x = pure x := by intro _; rfl) :
    EvL X T EE (.ListComp elt [⟨tg, iter, ifs, 0⟩] scope pos) (fun ρ => M.bind (fi ρ) fun items => compD p ft fe (wipeD ρ (own.map (·.2))) items) :=
  ⟨(pe_lc hc hN hi.pi ok (fun s H C cl fp => (hg s H C cl fp).pg) (fun s H C cl fp => (ht s H C cl fp).pts) (fun s H C cl fp => (he s H C cl fp).pe) hs).dimp fun σ H Q h => lc_ok hsl h⟩
/-- from a new list to what is done with it -/
theorem frz_read {K : PySem.W.Frag} {fl : En → M (List D)} {σ : St} {H : Hp} {Q : VK} (h : dE K T EE (fun ρ => M.bind (fl ρ) fun l => kon (.lst l)) σ H Q) : dL K T EE fl σ H Q := by
  refine (show dG K T EE (repL K T) fl σ H _ from ?_)
  obtain ⟨_, _, _, _, h1, h2, h3⟩ := bindD (rep := repL K T) h
  refine ⟨_, _, _, _, h1, h2, h3.imp fun vs H1 ⟨l, γ1, hid, S1, ρ, q1, q3, q4, q5⟩ p np => ?_⟩
  obtain ⟨a1, a2, a3⟩ := q1.lay np (.lst vs)
  exact q5 γ1 _ _ a1 a2 (.lst (SqL.of (a3 hid (q1.fresh np).2)) q4.1 (a2.rpl q4.2))
theorem cell_read {K : PySem.W.Frag} {fl : En → M (List D)} {σ : St} {H : Hp} {Q : VK} (h : dE K T EE (fun ρ => M.bind (fl ρ) newC) σ H Q) : dL K T EE fl σ H Q := by
  refine (show dG K T EE (repL K T) fl σ H _ from ?_)
  obtain ⟨_, _, _, _, h1, h2, h3⟩ := bindD (rep := repL K T) h
  refine ⟨_, _, _, _, h1, h2, h3.imp fun vs H1 ⟨l, γ1, hid, S1, ρ, q1, q3, q4, q5⟩ p np => ?_⟩
  unfold newC M.chg at q5
  by_cases fl : flatL l = true
  · simp only [if_pos fl] at q5
    obtain ⟨a1, a2⟩ := q1.newCell np (.lst q4.1 (RpL.toflat _ _ fl q4.2))
    refine q5 _ _ _ a1 a2 (.ref ?_)
    rw [← q1.len, List.getElem?_append_right (Nat.le_refl _), Nat.sub_self]
    rfl
  · simp only [if_neg fl] at q5
    exact q5.elim
theorem set_read {K : PySem.W.Frag} {f : En → M D} {i : Nat} {σ : St} {H : Hp} {Dn : Ends} (h : dS K T EE (bindS f fun d ρ S => .nx (ρ.set i (some d)) S) Dn σ H) : dE K T EE f σ H fun x H1 => Dn.nx (σ.set i (some x)) H1 := by
  refine (show dG K T EE (repE K T) f σ H _ from ?_)
  obtain ⟨_, _, _, _, h1, h2, h3⟩ := bindSD (rep := repE K T) h
  refine ⟨_, _, _, _, h1, h2, h3.imp fun v H1 ⟨d, γ1, hid, S1, ρ, q1, q3, q4, q5⟩ => ?_⟩
  exact q5 γ1 H1 _ q1 (Ext.refl _ _ _) (q3.set i q4)
section
variable {i : Nat} {y : Str} {py : Pos} {elt tg iter : Expr} {ifs : List Expr} {scope : Scope} {own : List (Str × Nat)} {pos spos : Pos} {fi : En → M (List D)} {p : Pat} {ft : En → M Bool} {fe : En → M D}
/-- name = [..] -/
theorem es_setLc (hc : X.calm = true) (hN : X.N.Nodup) (hy : X.N[i]? = some y) (hyl : X.env.scope.names.lookup y = some .local)
    (hsw : swapsWith (.ListComp elt [⟨tg, iter, ifs, 0⟩] scope pos) (some (.Name y py)) spos.line X.env = pure true) (hi : EvI X T EE tg iter fi) (ok : BlkOk X.N X.env.scope scope own)
    (hg : ∀ (s : Shared) (H : Hp) (C : Addr) (cl : List (Str × Addr)) (fp : List Addr), EvG (X.blk s H scope (compEnvC scope cl C X.env) fp) tg p) (ht : ∀ (s : Shared) (H : Hp) (C : Addr) (cl : List (Str × Addr)) (fp : List Addr), EvTs (X.blk s H scope (compEnvC scope cl C X.env) fp) T XX0 ifs ft)
    (he : ∀ (s : Shared) (H : Hp) (C : Addr) (cl : List (Str × Addr)) (fp : List Addr), EvE (X.blk s H scope (compEnvC scope cl C X.env) fp) T XX0 elt fe) (hsl : ∀ i ∈ p.slots, i ∈ own.map (·.2) := by decide) (hs : ∀ x, foldedSetIterable iter X.env x = pure x := by intro _; rfl) :
    EvS X T EE (.Assign [.Name y py] (.ListComp elt [⟨tg, iter, ifs, 0⟩] scope pos) spos) (bindS (fun ρ => M.bind (M.bind (fi ρ) fun items => compD p ft fe (wipeD ρ (own.map (·.2))) items) fun l => kon (.lst l)) fun d ρ S => .nx (ρ.set i (some d)) S) :=
  ⟨(ps_setLc hc hN hy hyl hsw hi.pi ok (fun s H C cl fp => (hg s H C cl fp).pg) (fun s H C cl fp => (ht s H C cl fp).pts) (fun s H C cl fp => (he s H C cl fp).pe) hs).dimp fun Dn σ H h => lc_ok hsl (frz_read (set_read h))⟩
theorem es_setLcC (hc : X.calm = true) (hN : X.N.Nodup) (hy : X.N[i]? = some y) (hyl : X.env.scope.names.lookup y = some .local)
    (hsw : swapsWith (.ListComp elt [⟨tg, iter, ifs, 0⟩] scope pos) (some (.Name y py)) spos.line X.env = pure true) (hi : EvI X T EE tg iter fi) (ok : BlkOk X.N X.env.scope scope own)
    (hg : ∀ (s : Shared) (H : Hp) (C : Addr) (cl : List (Str × Addr)) (fp : List Addr), EvG (X.blk s H scope (compEnvC scope cl C X.env) fp) tg p) (ht : ∀ (s : Shared) (H : Hp) (C : Addr) (cl : List (Str × Addr)) (fp : List Addr), EvTs (X.blk s H scope (compEnvC scope cl C X.env) fp) T XX0 ifs ft)
    (he : ∀ (s : Shared) (H : Hp) (C : Addr) (cl : List (Str × Addr)) (fp : List Addr), EvE (X.blk s H scope (compEnvC scope cl C X.env) fp) T XX0 elt fe) (hsl : ∀ i ∈ p.slots, i ∈ own.map (·.2) := by decide) (hs : ∀ x, foldedSetIterable iter X.env x = pure x := by intro _; rfl) :
    EvS X T EE (.Assign [.Name y py] (.ListComp elt [⟨tg, iter, ifs, 0⟩] scope pos) spos) (bindS (fun ρ => M.bind (M.bind (fi ρ) fun items => compD p ft fe (wipeD ρ (own.map (·.2))) items) newC) fun d ρ S => .nx (ρ.set i (some d)) S) :=
  ⟨(ps_setLc hc hN hy hyl hsw hi.pi ok (fun s H C cl fp => (hg s H C cl fp).pg) (fun s H C cl fp => (ht s H C cl fp).pts) (fun s H C cl fp => (he s H C cl fp).pe) hs).dimp fun Dn σ H h => lc_ok hsl (cell_read (set_read h))⟩
end
end

/-! ### what a def promises -/
mutual
/-- cells from n0 on are read -/
def resv (n0 : Nat) (S : Cells) : D → Option D
  | .ref n => if n < n0 then some (.ref n) else match S[n]? with
    | some ⟨_, .lst l⟩ => some (.lst l)
    | _ => none
  | .lst l => match resvL n0 S l with
    | some l' => some (.lst l')
    | none => none
  | .tup l => match resvL n0 S l with
    | some l' => some (.tup l')
    | none => none
  | .obj c l => match resvL n0 S l with
    | some l' => some (.obj c l')
    | none => none
  | .non => some .non
  | .bl b => some (.bl b)
  | .int i => some (.int i)
  | .str x => some (.str x)
def resvL (n0 : Nat) (S : Cells) : List D → Option (List D)
  | [] => some []
  | d :: ds => match resv n0 S d, resvL n0 S ds with
    | some d', some ds' => some (d' :: ds')
    | _, _ => none
end
mutual
theorem resv_flat (n0 : Nat) (S : Cells) : ∀ d : D, d.flat = true → resv n0 S d = some d
  | .non, _ => rfl
  | .bl _, _ => rfl
  | .int _, _ => rfl
  | .str _, _ => rfl
  | .lst l, h => by
    rw [flat_lst] at h
    unfold resv
    rw [resvL_flat n0 S l h]
  | .tup l, h => by
    rw [flat_tup] at h
    unfold resv
    rw [resvL_flat n0 S l h]
  | .obj c l, h => by
    rw [flat_obj] at h
    unfold resv
    rw [resvL_flat n0 S l h]
  | .ref n, h => by simp at h
theorem resvL_flat (n0 : Nat) (S : Cells) : ∀ l : List D, flatL l = true → resvL n0 S l = some l
  | [], _ => rfl
  | d :: ds, h => by
    rw [flatL_cons, Bool.and_eq_true] at h
    unfold resvL
    rw [resv_flat n0 S d h.1, resvL_flat n0 S ds h.2]
end
mutual
theorem resvL_len (n0 : Nat) (S : Cells) : ∀ (ds es : List D), resvL n0 S ds = some es → es.length = ds.length
  | [], es, h => by
    unfold resvL at h
    cases h
    rfl
  | d :: ds, es, h => by
    unfold resvL at h
    cases h1 : resv n0 S d with
    | none => rw [h1] at h; cases h
    | some d' =>
      cases h2 : resvL n0 S ds with
      | none => rw [h1, h2] at h; cases h
      | some ds' =>
        rw [h1, h2] at h
        cases h
        simp [resvL_len n0 S ds ds' h2]
end
section
variable {K : PySem.W.Frag} {T : Tab} {γ hid : List Addr} {S : Cells} {H : Hp} {n0 : Nat}
mutual
theorem resv_ok (h : Hold K T γ hid S H) : ∀ (d d' : D) (v : V), Rp K T γ (out γ S hid H) d v → resv n0 S d = some d' → Rp K T (γ.take n0) (out (γ.take n0) (S.take n0) hid H) d' v
  | .non, _, _, r, e => by unfold resv at e; cases e; cases r; exact .non
  | .bl _, _, _, r, e => by unfold resv at e; cases e; cases r; exact .bl _
  | .int _, _, _, r, e => by unfold resv at e; cases e; cases r; exact .int _
  | .str _, _, _, r, e => by unfold resv at e; cases e; cases r with | str x z => exact .str _ z
  | .lst l, _, _, r, e => by
    unfold resv at e
    cases q : resvL n0 S l with
    | none => rw [q] at e; cases e
    | some l' =>
      rw [q] at e
      cases e
      cases r with
      | lst a z b => exact .lst (((h.cut n0).2 hid).seq a) (by rw [resvL_len n0 S l l' q]; exact z) (resvL_ok h l l' _ b q)
  | .tup l, _, _, r, e => by
    unfold resv at e
    cases q : resvL n0 S l with
    | none => rw [q] at e; cases e
    | some l' =>
      rw [q] at e
      cases e
      cases r with
      | tup a z b => exact .tup (same_seqT ((h.cut n0).2 hid) a) (by rw [resvL_len n0 S l l' q]; exact z) (resvL_ok h l l' _ b q)
  | .obj c l, _, _, r, e => by
    unfold resv at e
    cases q : resvL n0 S l with
    | none => rw [q] at e; cases e
    | some l' =>
      rw [q] at e
      cases e
      cases r with
      | obj a z b => exact .obj ((h.cut n0).2 hid _ _ a) z (resvL_ok h l l' _ b q)
  | .ref n, d', _, r, e => by
    unfold resv at e
    cases r with
    | ref a =>
      by_cases hn : n < n0
      · rw [if_pos hn] at e
        cases e
        exact .ref (by rw [List.getElem?_take, if_pos hn]; exact a)
      · rw [if_neg hn] at e
        split at e
        · rename_i q
          cases e
          obtain ⟨vs, h1, z, h2⟩ := h.list a q
          refine .lst (SqL.of (out_some.mpr ⟨fun z => h.hidG _ z (List.mem_of_getElem? a), ?_, h1⟩)) z (h2.nil_any ((h.cut n0).2 hid))
          refine live_no fun hm => ?_
          obtain ⟨m, hm⟩ := List.mem_iff_getElem?.mp hm
          obtain ⟨h3, h4⟩ := getElem?_take_some hm
          exact hn ((nd_ix h.nd a h3) ▸ h4)
        · cases e
theorem resvL_ok (h : Hold K T γ hid S H) : ∀ (ds ds' : List D) (vs : List V), RpL K T γ (out γ S hid H) ds vs → resvL n0 S ds = some ds' → RpL K T (γ.take n0) (out (γ.take n0) (S.take n0) hid H) ds' vs
  | [], _, _, r, e => by unfold resvL at e; cases e; cases r; exact .nil
  | d :: ds, es, _, r, e => by
    unfold resvL at e
    cases h1 : resv n0 S d with
    | none => rw [h1] at e; cases e
    | some d' =>
      cases h2 : resvL n0 S ds with
      | none => rw [h1, h2] at e; cases e
      | some ds' =>
        rw [h1, h2] at e
        cases e
        cases r with
        | cons r1 r2 => exact .cons (resv_ok h d d' _ r1 h1) (resvL_ok h ds ds' _ r2 h2)
end
/-- behind a def's body: its own cells are forgotten -/
theorem Ext.cut {γ γ1 hid : List Addr} {S S1 : Cells} {H H1 : Hp} (h0 : Hold K T γ hid S H) (h : Hold K T γ1 hid S1 H1) (e : Ext γ S H γ1 S1 H1) : γ1.take S.length = γ ∧ Ext γ S H (γ1.take S.length) (S1.take S.length) H1 := by
  have hg : γ1.take S.length = γ := by
    apply List.ext_getElem?
    intro n
    rw [List.getElem?_take]
    split
    · rename_i hn
      rw [← h0.len] at hn
      have := e.pre n _ (List.getElem?_eq_getElem hn)
      rw [this, List.getElem?_eq_getElem hn]
    · rename_i hn
      rw [List.getElem?_eq_none_iff.mpr (by rw [h0.len]; omega)]
  refine ⟨hg, ⟨fun n a z => by rw [hg]; exact z, e.same.trans ((h.cut S.length).2 [])⟩⟩
end
def retD (n0 : Nat) (S : Cells) : Option D → DL.R D
  | some d => .ok d (S.take n0)
  | none => .stuck
def exitD (n0 : Nat) : Out → DL.R D
  | .rt d S => retD n0 S (resv n0 S d)
  | .nx _ S => .ok .non (S.take n0)
  | .er x _ S => .err x (S.take n0)
  | _ => .stuck
/-- where a new list is handed back -/
def exitL (n0 : Nat) : Out → DL.R (List D)
  | .rt (.ref n) S => if n0 ≤ n then match S[n]? with
    | some ⟨true, .lst l⟩ => .ok l (S.take n0)
    | _ => .stuck else .stuck
  | .er x _ S => .err x (S.take n0)
  | _ => .stuck
def startD (N : Nat) (ds : List D) : En := ds.map some ++ List.replicate (N - ds.length) none
/-- a def by its body: N names -/
def bodyD (N : Nat) (B : SM) : List D → M D := fun ds S => exitD S.length (B (startD N ds) S)
def bodyL (N : Nat) (B : SM) : List D → M (List D) := fun ds S => exitL S.length (B (startD N ds) S)
theorem start_ok {K : PySem.W.Frag} {T : Tab} {γ : List Addr} {F : Hp} {N : List Str} {ds : List D} {vs : List V} (r : RpL K T γ F ds vs) : EnvR K T γ F (startD N.length ds) (L2.start N vs) := by
  have hl := r.length
  refine ⟨by simp [startD, L2.start, hl], fun i d h => ?_⟩
  unfold startD at h
  by_cases hi : i < ds.length
  · rw [List.getElem?_append_left (by simpa using hi), List.getElem?_map] at h
    cases q : ds[i]? with
    | none => rw [q] at h; cases h
    | some d' =>
      rw [q] at h
      cases h
      obtain ⟨v, h1, h2⟩ := r.get q
      refine ⟨v, ?_, h2⟩
      unfold L2.start
      rw [List.getElem?_append_left (by simp; omega), List.getElem?_map, h1]
      rfl
  · rw [List.getElem?_append_right (by simp; omega), List.getElem?_replicate] at h
    split at h <;> cases h
/-- the promise: no exception leaves -/
def spD (K : PySem.W.Frag) (T : Tab) (n : Nat) (g : List D → M D) : Sp := fun vs H Q _ => ∃ γ hid S ds, Hold K T γ hid S H ∧ RpL K T γ (out γ S hid H) ds vs ∧ ds.length = n ∧ ∃ d S', g ds S = .ok d S' ∧ okV K T γ hid S H d S' Q
def spL (K : PySem.W.Frag) (T : Tab) (n : Nat) (g : List D → M (List D)) : Sp := fun vs H Q _ => ∃ γ hid S ds, Hold K T γ hid S H ∧ RpL K T γ (out γ S hid H) ds vs ∧ ds.length = n ∧ ∃ d S', g ds S = .ok d S' ∧ okL K T γ hid S H d S' Q
section
variable {P : Program} {w : World} {K : PySem.W.Frag} {mg : Str → Option Value} {base : Heap} {T : Tab}
theorem fn_D {x qual : Str} {params : Arguments} {body : List Stmt} {scope : Scope} {dvs : List V} {kws : List (Str × V)} {f : Addr} {fd : FuncData} {N ps : List Str} {k : Nat} {B : SM} (F : FunD K x qual params body scope dvs kws f fd) (S : FnScope N ps scope)
    (hb : ∀ (cdv : Value) (A : Around) (outer : List Env) (s : Shared) (H : Hp) (E : XK), Room k (A.deeper (envOfC qual scope s.heap.objs.size f cdv)) → NoRepr (A.deeper (envOfC qual scope s.heap.objs.size f cdv)) →
      EvSs (cxOf CX0 P w K mg base N qual scope f cdv A outer s H E).nox T XX0 body B) : FnG P w K mg base (k + 1) f fd ps (spD K T ps.length (bodyD N.length B)) := by
  refine fng_ok F S (fun vs H Q E h => ?_) (fun cdv A outer s H vs Q E hr nr h => ?_)
  · obtain ⟨γ, hid, S, ds, h1, h2, h3, _⟩ := h
    rw [← h2.length, h3]
  · obtain ⟨γ, hid, S, ds, h1, h2, h3, d, S', e, q⟩ := h
    refine ⟨_, (hb cdv A outer s H E hr nr).ps, γ, hid, S, startD N.length ds, h1, start_ok h2, ?_⟩
    unfold bodyD at e
    cases eb : B (startD N.length ds) S with
    | nx ρ S1 =>
      rw [eb] at e
      cases e
      intro γ' H' σ' a1 a2 a3
      obtain ⟨c1, c2⟩ := Ext.cut h1 a1 a2
      exact q _ H' .non (a1.cut _).1 c2 .non
    | rt d1 S1 =>
      rw [eb] at e
      have e : retD S.length S1 (resv S.length S1 d1) = .ok d S' := e
      cases er : resv S.length S1 d1 with
      | none => rw [er] at e; cases e
      | some d2 =>
        rw [er] at e
        cases e
        intro γ' H' v a1 a2 a3
        obtain ⟨c1, c2⟩ := Ext.cut h1 a1 a2
        exact q _ H' v (a1.cut _).1 c2 (resv_ok a1 _ _ _ a3 er)
    | bk ρ S1 => rw [eb] at e; cases e
    | ct ρ S1 => rw [eb] at e; cases e
    | er x ρ S1 => rw [eb] at e; cases e
    | stuck => rw [eb] at e; cases e
theorem fn_L {x qual : Str} {params : Arguments} {body : List Stmt} {scope : Scope} {dvs : List V} {kws : List (Str × V)} {f : Addr} {fd : FuncData} {N ps : List Str} {k : Nat} {B : SM} (F : FunD K x qual params body scope dvs kws f fd) (S : FnScope N ps scope)
    (hb : ∀ (cdv : Value) (A : Around) (outer : List Env) (s : Shared) (H : Hp) (E : XK), Room k (A.deeper (envOfC qual scope s.heap.objs.size f cdv)) → NoRepr (A.deeper (envOfC qual scope s.heap.objs.size f cdv)) →
      EvSs (cxOf CX0 P w K mg base N qual scope f cdv A outer s H E).nox T XX0 body B) : FnG P w K mg base (k + 1) f fd ps (spL K T ps.length (bodyL N.length B)) := by
  refine fng_ok F S (fun vs H Q E h => ?_) (fun cdv A outer s H vs Q E hr nr h => ?_)
  · obtain ⟨γ, hid, S, ds, h1, h2, h3, _⟩ := h
    rw [← h2.length, h3]
  · obtain ⟨γ, hid, S, ds, h1, h2, h3, l, S', e, q⟩ := h
    refine ⟨_, (hb cdv A outer s H E hr nr).ps, γ, hid, S, startD N.length ds, h1, start_ok h2, ?_⟩
    unfold bodyL at e
    cases eb : B (startD N.length ds) S with
    | nx ρ S1 => rw [eb] at e; cases e
    | rt d1 S1 =>
      rw [eb] at e
      cases d1 with
      | ref n =>
        have e : (if S.length ≤ n then (match S1[n]? with
          | some ⟨true, .lst l⟩ => .ok l (S1.take S.length)
          | _ => .stuck : DL.R (List D)) else .stuck) = .ok l S' := e
        split at e
        · rename_i hn
          split at e
          · rename_i en
            cases e
            intro γ' H' v a1 a2 a3
            cases a3 with
            | ref ga =>
              rename_i a
              obtain ⟨vs1, g1, z, g2⟩ := a1.list ga en
              obtain ⟨c1, c2⟩ := Ext.cut h1 a1 a2
              have lv : liveAt γ' S1 a = true := liveAt_iff.mpr ⟨n, _, ga, en, rfl⟩
              have na : a ∉ γ'.take S.length := fun hm => by
                obtain ⟨m, hm⟩ := List.mem_iff_getElem?.mp hm
                obtain ⟨h3, h4⟩ := getElem?_take_some hm
                have := nd_ix a1.nd ga h3
                omega
              have smE : ∀ hd, Same (out γ' S1 hd H') (out (γ'.take S.length) (S1.take S.length) hd (era H' a)) := fun hd b o hb => by
                obtain ⟨b1, b2, b3⟩ := out_some.mp hb
                have ne : b ≠ a := fun z => by rw [z, lv] at b2; cases b2
                obtain ⟨b4, b5, b6⟩ := out_some.mp ((a1.cut S.length).2 hd b o hb)
                exact out_some.mpr ⟨b4, b5, by rw [era_ne ne]; exact b6⟩
              have hold : Hold K T (γ'.take S.length) hid (S1.take S.length) (era H' a) := by
                refine ⟨(a1.cut S.length).1.len, (a1.cut S.length).1.nd, fun m b c e1 e2 => ?_, fun b hb => ?_, (a1.cut S.length).1.hidG⟩
                · obtain ⟨o, ho, r⟩ := a1.cell m b c (getElem?_take_some e1).1 (getElem?_take_some e2).1
                  exact ⟨o, by rw [era_ne (fun z : b = a => na (by rw [← z]; exact List.mem_of_getElem? e1))]; exact ho, r.mono (smE hid)⟩
                · rw [era_ne (fun z : b = a => a1.hidG b hb (by rw [z]; exact List.mem_of_getElem? ga))]
                  exact a1.hidT b hb
              have q1 := q (γ'.take S.length) (era H' a) vs1 hold ⟨c2.pre, a2.same.trans (smE [])⟩ z (g2.nil_any (smE hid)) a era_same
              rw [era_upd g1] at q1
              exact q1
          · cases e
        · cases e
      | _ => cases e
    | bk ρ S1 => rw [eb] at e; cases e
    | ct ρ S1 => rw [eb] at e; cases e
    | er x ρ S1 => rw [eb] at e; cases e
    | stuck => rw [eb] at e; cases e
end
/-! ### calls -/
section
variable {X : Cx} {T : Tab} {EE : XX} {k : Nat} {f : Addr} {fd : FuncData} {ps : List Str} {x : Str} {p pos : Pos} {e : Expr} {es : List Expr} {fs : En → M (List D)} {n : Nat}
theorem call_read {K : PySem.W.Frag} {g : List D → M D} {σ : St} {H : Hp} {Q : VK} (hn : ∀ ds S, ds.length ≠ n → g ds S = .stuck) (h : dE K T EE (fun ρ => M.bind (fs ρ) fun ds => calmM (g ds)) σ H Q) : tCall (spD K T n g) [] E0 (dA K T EE fs) σ H Q := by
  refine (show dG K T EE (repA K T) fs σ H _ from ?_)
  obtain ⟨_, _, _, _, h1, h2, h3⟩ := bindD (rep := repA K T) h
  refine ⟨_, _, _, _, h1, h2, h3.imp fun vs H1 ⟨ds, γ1, hid, S1, ρ, q1, q3, q4, q5⟩ => ?_⟩
  rw [List.append_nil]
  cases eg : g ds S1 with
  | ok d S2 =>
    have q5 : resG K T EE (repE K T) γ1 hid S1 H1 ρ σ (calmM (g ds) S1) Q := q5
    rw [calm_of eg] at q5
    refine ⟨γ1, hid, S1, ds, q1, q4, ?_, d, S2, eg, q5⟩
    refine Decidable.byContradiction fun hne => ?_
    rw [hn ds S1 hne] at eg
    cases eg
  | err y S2 =>
    have q5 : resG K T EE (repE K T) γ1 hid S1 H1 ρ σ (calmM (g ds) S1) Q := q5
    unfold calmM at q5
    rw [eg] at q5
    exact q5.elim
  | stuck =>
    have q5 : resG K T EE (repE K T) γ1 hid S1 H1 ρ σ (calmM (g ds) S1) Q := q5
    unfold calmM at q5
    rw [eg] at q5
    exact q5.elim
theorem callL_read {K : PySem.W.Frag} {g : List D → M (List D)} {σ : St} {H : Hp} {Q : VK} (hn : ∀ ds S, ds.length ≠ n → g ds S = .stuck) (h : dL K T EE (fun ρ => M.bind (fs ρ) fun ds => calmM (g ds)) σ H Q) : tCall (spL K T n g) [] E0 (dA K T EE fs) σ H Q := by
  refine (show dG K T EE (repA K T) fs σ H _ from ?_)
  obtain ⟨_, _, _, _, h1, h2, h3⟩ := bindD (rep := repA K T) h
  refine ⟨_, _, _, _, h1, h2, h3.imp fun vs H1 ⟨ds, γ1, hid, S1, ρ, q1, q3, q4, q5⟩ => ?_⟩
  rw [List.append_nil]
  cases eg : g ds S1 with
  | ok d S2 =>
    have q5 : resG K T EE (repL K T) γ1 hid S1 H1 ρ σ (calmM (g ds) S1) (fun vs H' => ∀ p, H' p = none → Q (.ref p) (upd H' p (.lst vs))) := q5
    rw [calm_of eg] at q5
    refine ⟨γ1, hid, S1, ds, q1, q4, ?_, d, S2, eg, fun γ' H' vs a1 a2 z a3 => q5 γ' H' vs a1 a2 ⟨z, a3⟩⟩
    refine Decidable.byContradiction fun hne => ?_
    rw [hn ds S1 hne] at eg
    cases eg
  | err y S2 =>
    have q5 : resG K T EE (repL K T) γ1 hid S1 H1 ρ σ (calmM (g ds) S1) (fun vs H' => ∀ p, H' p = none → Q (.ref p) (upd H' p (.lst vs))) := q5
    unfold calmM at q5
    rw [eg] at q5
    exact q5.elim
  | stuck =>
    have q5 : resG K T EE (repL K T) γ1 hid S1 H1 ρ σ (calmM (g ds) S1) (fun vs H' => ∀ p, H' p = none → Q (.ref p) (upd H' p (.lst vs))) := q5
    unfold calmM at q5
    rw [eg] at q5
    exact q5.elim
/-- with so many arguments -/
def arity {α : Type} (n : Nat) (g : List D → M α) : List D → M α := fun ds S => if ds.length = n then g ds S else .stuck
theorem spD_arity {K : PySem.W.Frag} {g : List D → M D} {vs : List V} {H : Hp} {Q : VK} {E : XK} (h : spD K T n (arity n g) vs H Q E) : spD K T n g vs H Q E := by
  obtain ⟨γ, hid, S, ds, h1, h2, h3, d, S', e, q⟩ := h
  unfold arity at e
  rw [if_pos h3] at e
  exact ⟨γ, hid, S, ds, h1, h2, h3, d, S', e, q⟩
theorem spL_arity {K : PySem.W.Frag} {g : List D → M (List D)} {vs : List V} {H : Hp} {Q : VK} {E : XK} (h : spL K T n (arity n g) vs H Q E) : spL K T n g vs H Q E := by
  obtain ⟨γ, hid, S, ds, h1, h2, h3, d, S', e, q⟩ := h
  unfold arity at e
  rw [if_pos h3] at e
  exact ⟨γ, hid, S, ds, h1, h2, h3, d, S', e, q⟩
/-- f(..), f a def of the text -/
theorem ev_call {g : List D → M D} (F : FnG X.prog X.w X.K X.mg X.base k f fd ps (spD X.K T n g)) (hr : Room k X.A) (nr : NoRepr X.A) (hg : Gl X x) (hm : X.mg x = some (.ref f)) (hk : PySem.W.keepIn X.K (.ref f) = true) (hb : Binds X.K fd ps [])
    (ha : EvA X T EE (e :: es) fs) (hdb : (x == ("__debug__" : Str)) = false := by decide) (he : starEach (e :: es) X.env = (false, eval e X.env) :: starEach es X.env := by rfl) (hpl : (backTo pos (starEach es X.env)).any (·.1) = false := by rfl) :
    EvE X T EE (.Call (.Name x p) (e :: es) [] pos) (fun ρ => M.bind (fs ρ) fun ds => calmM (arity n g ds)) :=
  ⟨(pg_call (E := E0) (F.imp fun vs H Q E h => spD_arity h) hr nr hg hm hk hb ha.pa hdb he hpl).dimp fun σ H Q h => call_read (fun ds S hne => by unfold arity; rw [if_neg hne]) h⟩
theorem evL_call {g : List D → M (List D)} (F : FnG X.prog X.w X.K X.mg X.base k f fd ps (spL X.K T n g)) (hr : Room k X.A) (nr : NoRepr X.A) (hg : Gl X x) (hm : X.mg x = some (.ref f)) (hk : PySem.W.keepIn X.K (.ref f) = true) (hb : Binds X.K fd ps [])
    (ha : EvA X T EE (e :: es) fs) (hdb : (x == ("__debug__" : Str)) = false := by decide) (he : starEach (e :: es) X.env = (false, eval e X.env) :: starEach es X.env := by rfl) (hpl : (backTo pos (starEach es X.env)).any (·.1) = false := by rfl) :
    EvL X T EE (.Call (.Name x p) (e :: es) [] pos) (fun ρ => M.bind (fs ρ) fun ds => calmM (arity n g ds)) :=
  ⟨(pg_call (E := E0) (F.imp fun vs H Q E h => spL_arity h) hr nr hg hm hk hb ha.pa hdb he hpl).dimp fun σ H Q h => callL_read (fun ds S hne => by unfold arity; rw [if_neg hne]) h⟩
end
end DL
end
section
set_option maxHeartbeats 2000000
/-! DLe: operators, subscripts, built-ins and methods over data. -/
namespace DL
open PySem PySem.Spec L2
open PyProof.Rows hiding St

/-! ### looking at data -/
def seqL (S : Cells) : D → Option (List D)
  | .lst l => some l
  | .ref n => match S[n]? with
    | some ⟨_, .lst l⟩ => some l
    | _ => none
  | _ => none
def seqT : D → Option (List D)
  | .tup l => some l
  | _ => none
section
variable {K : PySem.W.Frag} {T : Tab} {γ hid : List Addr} {S : Cells} {H : Hp}
theorem seqL_ok (h : Hold K T γ hid S H) {d : D} {v : V} {l : List D} (r : Rp K T γ (out γ S hid H) d v) (e : seqL S d = some l) : ∃ a vs, v = .ref a ∧ SqL K H a vs ∧ l.length ≤ sizeLine ∧ RpL K T γ (out γ S hid H) l vs := by
  cases r with
  | lst a z b =>
    cases e
    exact ⟨_, _, rfl, (out_sub _ _ _ _).seq a, z, b⟩
  | ref a =>
    rename_i n _
    have e : (match S[n]? with
      | some ⟨_, .lst l⟩ => some l
      | _ => none) = some l := e
    split at e
    · rename_i q
      cases e
      obtain ⟨vs, h1, z, h2⟩ := h.list a q
      exact ⟨_, vs, rfl, SqL.of h1, z, h2.nil_any (Same.refl _)⟩
    · cases e
  | _ => cases e
theorem seqT_ok {d : D} {v : V} {l : List D} (r : Rp K T γ (out γ S hid H) d v) (e : seqT d = some l) : ∃ a vs, v = .ref a ∧ SqT K H a vs ∧ l.length ≤ sizeLine ∧ RpL K T γ (out γ S hid H) l vs := by
  cases r with
  | tup a z b =>
    cases e
    exact ⟨_, _, rfl, same_seqT (out_sub _ _ _ _) a, z, b⟩
  | _ => cases e
theorem okV.same {d : D} {v : V} {Q : VK} (q : okV K T γ hid S H d S Q) (h : Hold K T γ hid S H) (r : Rp K T γ (out γ S hid H) d v) : Q v H := q γ H v h (Ext.refl _ _ _) r
/-- a new tuple, a new list -/
theorem okV.tup {l : List D} {vs : List V} {Q : VK} (q : okV K T γ hid S H (.tup l) S Q) (h : Hold K T γ hid S H) (z : l.length ≤ sizeLine) (r : RpL K T γ (out γ S hid H) l vs) : ∀ p, H p = none → Q (.ref p) (upd H p (.tup vs)) := fun p np => by
  obtain ⟨a1, a2, a3⟩ := h.lay np (.tup vs)
  exact q γ _ _ a1 a2 (.tup (SqT.of (a3 hid (h.fresh np).2)) z (a2.rpl r))
theorem okV.lst {l : List D} {vs : List V} {Q : VK} (q : okV K T γ hid S H (.lst l) S Q) (h : Hold K T γ hid S H) (z : l.length ≤ sizeLine) (r : RpL K T γ (out γ S hid H) l vs) : ∀ p, H p = none → Q (.ref p) (upd H p (.lst vs)) := fun p np => by
  obtain ⟨a1, a2, a3⟩ := h.lay np (.lst vs)
  exact q γ _ _ a1 a2 (.lst (SqL.of (a3 hid (h.fresh np).2)) z (a2.rpl r))
theorem okL.lst {l : List D} {vs : List V} {Q : VK} (q : okL K T γ hid S H l S Q) (h : Hold K T γ hid S H) (z : l.length ≤ sizeLine) (r : RpL K T γ (out γ S hid H) l vs) : ∀ p, H p = none → Q (.ref p) (upd H p (.lst vs)) := fun p np =>
  q γ H vs h (Ext.refl _ _ _) z r p np
end

/-! ### + - * // % ** -/
section
variable {X : Cx} {T : Tab}
/-- list + list, wherever they stand -/
theorem op_catS : OpR X (binaryOp .Add) (fun x y H Q => ∃ l b xs zs, x = .ref l ∧ y = .ref b ∧ SqL X.K H l xs ∧ SqL X.K H b zs ∧ xs.length + zs.length ≤ sizeLine ∧ ∀ p, H p = none → Q (.ref p) (upd H p (.lst (xs ++ zs)))) := by
  intro pins s σ H x y v u Q I rx ry h
  obtain ⟨l, b, xs, zs, rfl, rfl, h1, h2, hz, q⟩ := h
  cases rx
  cases ry
  obtain ⟨i1, r1, ⟨⟨c1, d1, t1, s1⟩, n1, e1, k1, _, m1⟩, _⟩ := I.list h1
  obtain ⟨i2, r2, ⟨⟨c2, d2, t2, s2⟩, n2, e2, k2, _, m2⟩, _⟩ := I.list h2
  simp only at k1 m1 k2 m2
  subst k1 m1 k2 m2
  have hl1 := r1.length
  have hl2 := r2.length
  refine concat_meets ⟨_, e1, rfl⟩ ⟨_, e2, rfl⟩ noFill_list_add seq_list_add PySem.F.slot_list_add PySem.F.entry_list_add (PySem.F.args_list_add_2 _ _) (list_addW l b i1.toArray i2.toArray n1 n2 d1 d2 s1 s2 (by rw [List.size_toArray, List.size_toArray]; omega)) ⟨e1, e2, ?_⟩
  have ea : i1.toArray ++ i2.toArray = (i1 ++ i2).toArray := by simp
  rw [ea]
  exact ⟨.ref _, _, I.lnew (t' := s.toks) (r1.append r2) (by rw [List.length_append]; omega), rfl, q _ I.fresh⟩
def catL (d1 d2 : D) (S : Cells) : Option (List D) := match seqL S d1, seqL S d2 with
  | some a, some b => if a.length + b.length ≤ sizeLine then some (a ++ b) else none
  | _, _ => none
theorem catL_some {d1 d2 : D} {S : Cells} {l : List D} (e : catL d1 d2 S = some l) : ∃ a b, seqL S d1 = some a ∧ seqL S d2 = some b ∧ a.length + b.length ≤ sizeLine ∧ l = a ++ b := by
  unfold catL at e
  split at e
  · rename_i a b h1 h2
    split at e
    · cases e
      exact ⟨a, b, h1, h2, by assumption, rfl⟩
    · cases e
  · cases e
theorem op_catL : OpR X (binaryOp .Add) (rOL X.K T catL) := op_catS.dimp fun x y H Q h => by
  obtain ⟨γ, hid, S, d1, d2, l, hold, r1, r2, e, q⟩ := h
  obtain ⟨a, b, h1, h2, z, rfl⟩ := catL_some e
  obtain ⟨p1, vs1, rfl, s1, z1, g1⟩ := seqL_ok hold r1 h1
  obtain ⟨p2, vs2, rfl, s2, z2, g2⟩ := seqL_ok hold r2 h2
  exact ⟨_, _, _, _, rfl, rfl, s1, s2, by rw [← g1.length, ← g2.length]; exact z, q.lst hold (by rw [List.length_append]; exact z) (g1.append g2)⟩
def dAdd (d1 d2 : D) (S : Cells) : Option D := match d1, d2 with
  | .int i, .int j => some (.int (i + j))
  | .str x, .str y => if x.length + y.length ≤ sizeLine then some (.str (x ++ y)) else none
  | .tup a, .tup b => if a.length + b.length ≤ sizeLine then some (.tup (a ++ b)) else none
  | d1, d2 => (catL d1 d2 S).map .lst
theorem str_len_append (x y : Str) : (x ++ y).length = x.length + y.length := by
  show (x.cps ++ y.cps).size = x.cps.size + y.cps.size
  rw [Array.size_append]
theorem op_dAdd : OpR X (binaryOp .Add) (rO X.K T dAdd) := by
  intro pins s σ H x y v u Q I rx ry h
  obtain ⟨γ, hid, S, d1, d2, d, hold, r1, r2, e, q⟩ := h
  have cat : (catL d1 d2 S).map .lst = some d → wpAny (model X.prog X.w) X.A (binaryOp .Add v u) (EP X pins σ Q) X.xe s := fun e => by
    cases ec : catL d1 d2 S with
    | none => rw [ec] at e; cases e
    | some l =>
      rw [ec] at e
      cases e
      refine op_catS pins s σ H x y v u Q I rx ry ?_
      obtain ⟨a, b, h1, h2, z, rfl⟩ := catL_some ec
      obtain ⟨p1, vs1, rfl, s1, z1, g1⟩ := seqL_ok hold r1 h1
      obtain ⟨p2, vs2, rfl, s2, z2, g2⟩ := seqL_ok hold r2 h2
      exact ⟨_, _, _, _, rfl, rfl, s1, s2, by rw [← g1.length, ← g2.length]; exact z, q.lst hold (by rw [List.length_append]; exact z) (g1.append g2)⟩
  unfold dAdd at e
  split at e
  · cases r1
    cases r2
    cases e
    exact op_add pins s σ H _ _ v u Q I rx ry ⟨_, _, rfl, rfl, q.same hold (.int _)⟩
  · cases r1
    cases r2
    split at e
    · cases e
      rename_i z
      exact op_add_str pins s σ H _ _ v u Q I rx ry ⟨_, _, rfl, rfl, z, q.same hold (.str _ (by rw [str_len_append]; exact z))⟩
    · cases e
  · split at e
    · cases e
      rename_i a b z
      obtain ⟨p1, vs1, rfl, s1, z1, g1⟩ := seqT_ok r1 rfl
      obtain ⟨p2, vs2, rfl, s2, z2, g2⟩ := seqT_ok r2 rfl
      refine op_catA pins s σ H _ _ v u Q I rx ry ⟨_, _, _, _, rfl, rfl, s1, s2, by rw [← g1.length, ← g2.length]; exact z, fun e0 => ?_, fun _ e0 => ?_, fun _ _ => q.tup hold (by rw [List.length_append]; exact z) (g1.append g2)⟩
      · subst e0
        cases g1
        exact q.same hold r2
      · subst e0
        cases g2
        rw [List.append_nil] at q
        exact q.same hold r1
    · cases e
  · exact cat e
def dSub (d1 d2 : D) (_ : Cells) : Option D := match d1, d2 with
  | .int i, .int j => some (.int (i - j))
  | _, _ => none
theorem op_dSub : OpR X (binaryOp .Sub) (rO X.K T dSub) := by
  intro pins s σ H x y v u Q I rx ry h
  obtain ⟨γ, hid, S, d1, d2, d, hold, r1, r2, e, q⟩ := h
  unfold dSub at e
  split at e
  · cases r1
    cases r2
    cases e
    exact op_sub pins s σ H _ _ v u Q I rx ry ⟨_, _, rfl, rfl, q.same hold (.int _)⟩
  · cases e
def okMul (i j : Int) : Bool := decide (i.natAbs.log2 + j.natAbs.log2 < 1000000)
def dMul (d1 d2 : D) (_ : Cells) : Option D := match d1, d2 with
  | .int i, .int j => if okMul i j = true then some (.int (i * j)) else none
  | _, _ => none
theorem op_dMul : OpR X (binaryOp .Mult) (rO X.K T dMul) := by
  intro pins s σ H x y v u Q I rx ry h
  obtain ⟨γ, hid, S, d1, d2, d, hold, r1, r2, e, q⟩ := h
  unfold dMul at e
  split at e
  · rename_i i j
    cases r1
    cases r2
    split at e
    · cases e
      rename_i z
      have z' : i.natAbs.log2 + j.natAbs.log2 < 1000000 := of_decide_eq_true z
      exact op_mulW pins s σ H _ _ v u Q I rx ry ⟨_, _, rfl, rfl, z', q.same hold (.int _)⟩
    · cases e
  · cases e
def dDiv (d1 d2 : D) (_ : Cells) : Option D := match d1, d2 with
  | .int i, .int j => if 0 < j ∧ j.natAbs.log2 < 9000 then some (.int (i / j)) else none
  | _, _ => none
theorem op_dDiv : OpR X (binaryOp .FloorDiv) (rO X.K T dDiv) := by
  intro pins s σ H x y v u Q I rx ry h
  obtain ⟨γ, hid, S, d1, d2, d, hold, r1, r2, e, q⟩ := h
  unfold dDiv at e
  split at e
  · cases r1
    cases r2
    split at e
    · cases e
      rename_i z
      exact op_fdivW pins s σ H _ _ v u Q I rx ry ⟨_, _, rfl, rfl, z, q.same hold (.int _)⟩
    · cases e
  · cases e
def dMod (d1 d2 : D) (_ : Cells) : Option D := match d1, d2 with
  | .int i, .int j => if 0 < j then some (.int (i % j)) else none
  | _, _ => none
theorem op_dMod : OpR X (binaryOp .Mod) (rO X.K T dMod) := by
  intro pins s σ H x y v u Q I rx ry h
  obtain ⟨γ, hid, S, d1, d2, d, hold, r1, r2, e, q⟩ := h
  unfold dMod at e
  split at e
  · cases r1
    cases r2
    split at e
    · cases e
      rename_i z
      exact op_mod pins s σ H _ _ v u Q I rx ry ⟨_, _, rfl, rfl, z, q.same hold (.int _)⟩
    · cases e
  · cases e
def dPow (d1 d2 : D) (_ : Cells) : Option D := match d1, d2 with
  | .int i, .int j => if 0 ≤ j ∧ (Builtin.Int.intBits i : Int) * j ≤ 2 ^ 27 then some (.int (i ^ j.toNat)) else none
  | _, _ => none
theorem op_dPow : OpR X (binaryOp .Pow) (rO X.K T dPow) := by
  intro pins s σ H x y v u Q I rx ry h
  obtain ⟨γ, hid, S, d1, d2, d, hold, r1, r2, e, q⟩ := h
  unfold dPow at e
  split at e
  · cases r1
    cases r2
    split at e
    · cases e
      rename_i z
      obtain ⟨t, rfl⟩ := rx
      obtain ⟨t', rfl⟩ := ry
      exact PyProof.Rows.pow_int z.1 z.2 ⟨.int _, H, I.tok _, ⟨_, rfl⟩, q.same hold (.int _)⟩
    · cases e
  · cases e
def dNeg (d : D) (_ : Cells) : Option D := match d with
  | .int i => some (.int (-i))
  | _ => none
theorem un_dNeg : UnR X (unaryOp .USub) (rU X.K T dNeg) := by
  intro pins s σ H x v Q I rx h
  obtain ⟨γ, hid, S, d1, d, hold, r1, e, q⟩ := h
  unfold dNeg at e
  split at e
  · cases r1
    cases e
    exact un_neg pins s σ H _ v Q I rx ⟨_, rfl, q.same hold (.int _)⟩
  · cases e

/-! ### comparisons -/
mutual
def toPy : D → Option PyData
  | .non => some .none
  | .bl b => some (.bool b)
  | .int i => some (.int i)
  | .str x => some (.str x)
  | .lst l => match toPyL l with
    | some m => some (.list m)
    | none => none
  | .tup l => match toPyL l with
    | some m => some (.tuple m)
    | none => none
  | _ => none
def toPyL : List D → Option (List PyData)
  | [] => some []
  | d :: ds => match toPy d, toPyL ds with
    | some e, some es => some (e :: es)
    | _, _ => none
end
mutual
theorem toPy_ok {K : PySem.W.Frag} {γ : List Addr} {F H : Hp} (hs : Same F H) : ∀ (d : D) (v : V) (p : PyData), Rp K T γ F d v → toPy d = some p → Dp K H v p
  | .non, _, _, r, e => by unfold toPy at e; cases e; cases r; exact .non
  | .bl _, _, _, r, e => by unfold toPy at e; cases e; cases r; exact .bl _
  | .int _, _, _, r, e => by unfold toPy at e; cases e; cases r; exact .int _
  | .str _, _, _, r, e => by unfold toPy at e; cases e; cases r; exact .str _
  | .lst l, _, _, r, e => by
    unfold toPy at e
    cases q : toPyL l with
    | none => rw [q] at e; cases e
    | some m =>
      rw [q] at e
      cases e
      cases r with
      | lst a z b => exact .lst (hs.seq a) (toPyL_ok hs l _ _ b q)
  | .tup l, _, _, r, e => by
    unfold toPy at e
    cases q : toPyL l with
    | none => rw [q] at e; cases e
    | some m =>
      rw [q] at e
      cases e
      cases r with
      | tup a z b => exact .tup (same_seqT hs a) (toPyL_ok hs l _ _ b q)
  | .ref _, _, _, _, e => by unfold toPy at e; cases e
  | .obj _ _, _, _, _, e => by unfold toPy at e; cases e
theorem toPyL_ok {K : PySem.W.Frag} {γ : List Addr} {F H : Hp} (hs : Same F H) : ∀ (ds : List D) (vs : List V) (ps : List PyData), RpL K T γ F ds vs → toPyL ds = some ps → DpAll K H vs ps
  | [], _, _, r, e => by unfold toPyL at e; cases e; cases r; exact .nil
  | d :: ds, _, _, r, e => by
    unfold toPyL at e
    cases h1 : toPy d with
    | none => rw [h1] at e; cases e
    | some p =>
      cases h2 : toPyL ds with
      | none => rw [h1, h2] at e; cases e
      | some ps =>
        rw [h1, h2] at e
        cases e
        cases r with
        | cons a b => exact .cons (toPy_ok hs d _ _ a h1) (toPyL_ok hs ds _ _ b h2)
end
/-- data as a whole, cells read -/
def vw (S : Cells) (d : D) : Option PyData := (resv 0 S d).bind toPy
theorem vw_ok {K : PySem.W.Frag} {γ hid : List Addr} {S : Cells} {H : Hp} {d : D} {v : V} {p : PyData} (h : Hold K T γ hid S H) (r : Rp K T γ (out γ S hid H) d v) (e : vw S d = some p) : Dp K H v p := by
  unfold vw at e
  cases q : resv 0 S d with
  | none => rw [q] at e; cases e
  | some d' =>
    rw [q] at e
    exact toPy_ok (out_sub _ _ _ _) d' v p (resv_ok h d d' v r q) e
def eqP (d1 d2 : D) (S : Cells) : Option Bool := match vw S d1, vw S d2 with
  | some p, some q => if SeqAt.shaped p = true ∧ SeqAt.shaped q = true then some (PyData.eqv p q) else none
  | _, _ => none
theorem eqP_some {d1 d2 : D} {S : Cells} {b : Bool} (e : eqP d1 d2 S = some b) : ∃ p q, vw S d1 = some p ∧ vw S d2 = some q ∧ SeqAt.shaped p = true ∧ SeqAt.shaped q = true ∧ b = PyData.eqv p q := by
  unfold eqP at e
  split at e
  · rename_i p q h1 h2
    split at e
    · rename_i z
      cases e
      exact ⟨p, q, h1, h2, z.1, z.2, rfl⟩
    · cases e
  · cases e
def dEq (d1 d2 : D) (S : Cells) : Option D := match d1, d2 with
  | .str x, .str y => some (.bl (decide (x = y)))
  | d1, d2 => (eqP d1 d2 S).map .bl
def dNe (d1 d2 : D) (S : Cells) : Option D := match d1, d2 with
  | .str x, .str y => some (.bl (!decide (x = y)))
  | d1, d2 => (eqP d1 d2 S).map fun b => .bl (!b)
theorem decS {x y : Str} : decide (V.str x = V.str y) = decide (x = y) := by
  by_cases h : x = y
  · rw [decide_eq_true h, decide_eq_true (by rw [h])]
  · rw [decide_eq_false h, decide_eq_false (fun z => h (V.str.inj z))]
theorem op_dEq (hu : X.A.units + 64 < cLine) : OpR X (compareOp .Eq) (rO X.K T dEq) := by
  intro pins s σ H x y v u Q I rx ry h
  obtain ⟨γ, hid, S, d1, d2, d, hold, r1, r2, e, q⟩ := h
  unfold dEq at e
  split at e
  · cases r1
    cases r2
    cases e
    exact op_eq pins s σ H _ _ v u Q I rx ry ⟨rfl, by rw [decS]; exact q.same hold (.bl _)⟩
  · refine op_eqD hu pins s σ H x y v u Q I rx ry ?_
    cases eb : eqP d1 d2 S with
    | none => rw [eb] at e; cases e
    | some b =>
      rw [eb] at e
      cases e
      obtain ⟨p1, p2, h1, h2, h3, h4, rfl⟩ := eqP_some eb
      exact ⟨p1, p2, vw_ok hold r1 h1, vw_ok hold r2 h2, h3, h4, q.same hold (.bl _)⟩
theorem op_dNe (hu : X.A.units + 64 < cLine) : OpR X (compareOp .NotEq) (rO X.K T dNe) := by
  intro pins s σ H x y v u Q I rx ry h
  obtain ⟨γ, hid, S, d1, d2, d, hold, r1, r2, e, q⟩ := h
  unfold dNe at e
  split at e
  · cases r1
    cases r2
    cases e
    exact op_ne pins s σ H _ _ v u Q I rx ry ⟨rfl, by rw [decS]; exact q.same hold (.bl _)⟩
  · refine op_neD hu pins s σ H x y v u Q I rx ry ?_
    cases eb : eqP d1 d2 S with
    | none => rw [eb] at e; cases e
    | some b =>
      rw [eb] at e
      cases e
      obtain ⟨p1, p2, h1, h2, h3, h4, rfl⟩ := eqP_some eb
      exact ⟨p1, p2, vw_ok hold r1 h1, vw_ok hold r2 h2, h3, h4, q.same hold (.bl _)⟩
def cmpI (p : Int → Int → Bool) (d1 d2 : D) (_ : Cells) : Option D := match d1, d2 with
  | .int i, .int j => some (.bl (p i j))
  | _, _ => none
theorem op_cmpI {o : CmpOp} {p : Int → Int → Bool} (ho : OpR X (compareOp o) (rI0 fun i j => .bl (p i j))) : OpR X (compareOp o) (rO X.K T (cmpI p)) := ho.dimp fun x y H Q h => by
  obtain ⟨γ, hid, S, d1, d2, d, hold, r1, r2, e, q⟩ := h
  unfold cmpI at e
  split at e
  · cases r1
    cases r2
    cases e
    exact ⟨_, _, rfl, rfl, q.same hold (.bl _)⟩
  · cases e
abbrev dLt := cmpI fun i j => decide (i < j)
abbrev dLe := cmpI fun i j => decide (i ≤ j)
abbrev dGt := cmpI fun i j => decide (j < i)
abbrev dGe := cmpI fun i j => decide (j ≤ i)
theorem op_dLt : OpR X (compareOp .Lt) (rO X.K T dLt) := op_cmpI op_lt
theorem op_dLe : OpR X (compareOp .LtE) (rO X.K T dLe) := op_cmpI op_le
theorem op_dGt : OpR X (compareOp .Gt) (rO X.K T dGt) := op_cmpI op_gt
theorem op_dGe : OpR X (compareOp .GtE) (rO X.K T dGe) := op_cmpI op_ge
def isNon : D → Bool
  | .non => true
  | _ => false
def dIs (d1 d2 : D) (_ : Cells) : Option D := match d2 with
  | .non => some (.bl (isNon d1))
  | _ => none
def dIsNot (d1 d2 : D) (_ : Cells) : Option D := match d2 with
  | .non => some (.bl (!isNon d1))
  | _ => none
theorem isNon_rep {K : PySem.W.Frag} {γ : List Addr} {F : Hp} {d : D} {v : V} (r : Rp K T γ F d v) : decide (v = .non) = isNon d := by
  cases r <;> simp [isNon]
theorem op_dIs : OpR X (compareOp .Is) (rO X.K T dIs) := op_isN.dimp fun x y H Q h => by
  obtain ⟨γ, hid, S, d1, d2, d, hold, r1, r2, e, q⟩ := h
  unfold dIs at e
  split at e
  · cases r2
    cases e
    exact ⟨rfl, by rw [isNon_rep r1]; exact q.same hold (.bl _)⟩
  · cases e
theorem op_dIsNot : OpR X (compareOp .IsNot) (rO X.K T dIsNot) := op_notN.dimp fun x y H Q h => by
  obtain ⟨γ, hid, S, d1, d2, d, hold, r1, r2, e, q⟩ := h
  unfold dIsNot at e
  split at e
  · cases r2
    cases e
    exact ⟨rfl, by rw [isNon_rep r1]; exact q.same hold (.bl _)⟩
  · cases e
end

/-! ### subscripts -/
section
variable {X : Cx} {T : Tab} {EE : XX} {a b e : Expr} {fa fb f : En → M D} {pos : Pos}
def ixD (d i : D) (S : Cells) : Option D := match i with
  | .int k => match d with
    | .str x => (atI x.cps.toList k).map fun c => .str ⟨#[c]⟩
    | .tup l => atI l k
    | d => (seqL S d).bind fun l => atI l k
  | _ => none
theorem atI_rep {K : PySem.W.Frag} {γ : List Addr} {F : Hp} {l : List D} {vs : List V} {k : Int} {d : D} (r : RpL K T γ F l vs) (e : atI l k = some d) : ∃ v, atI vs k = some v ∧ Rp K T γ F d v := by
  unfold atI at e ⊢
  rw [← r.length]
  cases q : ixN l.length k with
  | none => rw [q] at e; cases e
  | some j =>
    rw [q] at e
    exact r.get e
theorem ix_dIx : IxR X (rO X.K T ixD) := by
  intro value slice pins s σ H x y v u Q I rx ry h hp
  obtain ⟨γ, hid, S, d1, d2, d, hold, r1, r2, e, q⟩ := h
  unfold ixD at e
  split at e
  · rename_i k
    cases r2
    split at e
    · rename_i z
      cases r1 with
      | str _ hz =>
        cases ea : atI z.cps.toList k with
        | none => rw [ea] at e; cases e
        | some c =>
          rw [ea] at e
          cases e
          exact ix_seq value slice pins s σ H _ _ v u Q I rx ry (.inr (.inr ⟨_, _, c, rfl, rfl, hz, ea, q.same hold (.str _ one_sign)⟩)) hp
    · obtain ⟨p1, vs1, rfl, s1, z1, g1⟩ := seqT_ok r1 rfl
      obtain ⟨v1, e1, r3⟩ := atI_rep g1 e
      exact ix_seq value slice pins s σ H _ _ v u Q I rx ry (.inr (.inl ⟨_, _, _, v1, rfl, rfl, s1, e1, q.same hold r3⟩)) hp
    · cases el : seqL S d1 with
      | none => rw [el] at e; cases e
      | some l =>
        rw [el] at e
        obtain ⟨p1, vs1, rfl, s1, z1, g1⟩ := seqL_ok hold r1 el
        obtain ⟨v1, e1, r3⟩ := atI_rep g1 e
        exact ix_seq value slice pins s σ H _ _ v u Q I rx ry (.inl ⟨_, _, _, v1, rfl, rfl, s1, e1, q.same hold r3⟩) hp
  · cases e
theorem ev_ix (ha : EvE X T EE a fa) (hb : EvE X T EE b fb) (hs : PlainIx b) : EvE X T EE (.Subscript a b pos) (fun ρ => M.bind (fa ρ) fun x => M.bind (fb ρ) fun y => M.opt (ixD x y)) :=
  ⟨(pe_ix ix_dIx ha.pe hb.pe hs).dimp fun σ H Q h => two h⟩
/-! slices -/
def partD : D → Option (Option Int)
  | .int i => some (some i)
  | _ => none
structure EvO (X : Cx) (T : Tab) (EE : XX) (e : Option Expr) (f : En → M (Option Int)) : Prop where
  po : PO X e (dG X.K T EE (fun _ _ a b => a = b) f)
theorem _root_.L2.PO.dimp {X : Cx} {e : Option Expr} {t t' : TO} (h : PO X e t) (i : ∀ σ H Q, t' σ H Q → t σ H Q) : PO X e t' := ⟨fun pins s σ H Q I q => h.run pins s σ H Q I (i _ _ _ q)⟩
theorem eo_none : EvO X T EE none (fun _ S => .ok none S) := ⟨po_none.dimp fun σ H Q h => by
  obtain ⟨γ, hid, S, ρ, hold, env, h⟩ := h
  exact h γ H none hold (Ext.refl _ _ _) rfl⟩
theorem eo_some (h : EvE X T EE e f) : EvO X T EE (some e) (fun ρ => M.bind (f ρ) fun d => M.opt fun _ => partD d) := by
  refine ⟨(po_some h.pe).dimp fun σ H Q h => ?_⟩
  refine (show dG X.K T EE (repE X.K T) f σ H _ from ?_)
  obtain ⟨_, _, _, _, h1, h2, h3⟩ := bindD (rep := repE X.K T) h
  refine ⟨_, _, _, _, h1, h2, h3.imp fun x H1 ⟨d1, γ1, hid, S1, ρ, q1, q3, q4, q5⟩ => ?_⟩
  obtain ⟨o, e, w5⟩ := opt_ok q5
  unfold partD at e
  split at e
  · cases e
    cases q4
    exact ⟨_, rfl, w5 γ1 H1 _ q1 (Ext.refl _ _ _) rfl⟩
  · cases e
def cutD (l : List D) (lo hi : Option Int) : List D := (l.drop (HT.sIx l.length 0 lo)).take (HT.sIx l.length l.length hi - HT.sIx l.length 0 lo)
theorem cutD_rep {K : PySem.W.Frag} {γ : List Addr} {F : Hp} {l : List D} {vs : List V} (r : RpL K T γ F l vs) (lo hi : Option Int) : RpL K T γ F (cutD l lo hi) (cutV vs lo hi) := by
  unfold cutD cutV
  rw [r.length]
  exact (r.drop _).take _
theorem cutD_len (l : List D) (lo hi : Option Int) : (cutD l lo hi).length ≤ l.length := by
  unfold cutD
  rw [List.length_take, List.length_drop]
  omega
def slL (d : D) (lo hi : Option Int) (S : Cells) : Option (List D) := (seqL S d).map fun l => cutD l lo hi
def slD (d : D) (lo hi : Option Int) (S : Cells) : Option D := match d with
  | .tup l => some (.tup (cutD l lo hi))
  | .str x => some (.str (cutS x lo hi))
  | d => (slL d lo hi S).map .lst
theorem cutD_whole {l : List D} {lo hi : Option Int} (h : HT.sIx l.length 0 lo = 0 ∧ HT.sIx l.length l.length hi = l.length) : cutD l lo hi = l := by
  unfold cutD
  rw [h.1, h.2, List.drop_zero, Nat.sub_zero, List.take_length]
theorem cutS_len (x : Str) (lo hi : Option Int) : (cutS x lo hi).length ≤ x.length := by
  unfold cutS
  show (Array.size _) ≤ x.cps.size
  rw [List.size_toArray, List.length_take, List.length_drop, Array.length_toList]
  omega
theorem sl_dSl : SlR X (fun x lo hi H Q => ∃ γ hid S d d', Hold X.K T γ hid S H ∧ Rp X.K T γ (out γ S hid H) d x ∧ slD d lo hi S = some d' ∧ okV X.K T γ hid S H d' S Q) := by
  intro pins s σ H x v vl vu lo hi sl Q I rx hs pl pu h
  obtain ⟨γ, hid, S, d, d', hold, r1, e, q⟩ := h
  unfold slD at e
  split at e
  · cases e
    obtain ⟨p1, vs1, rfl, s1, z1, g1⟩ := seqT_ok r1 rfl
    refine sl_tupA pins s σ H _ v vl vu lo hi sl Q I rx hs pl pu ⟨_, _, rfl, s1, fun w => ?_, fun _ => q.tup hold (Nat.le_trans (cutD_len _ _ _) z1) (cutD_rep g1 lo hi)⟩
    rw [← g1.length] at w
    rw [cutD_whole w] at q
    exact q.same hold r1
  · cases e
    cases r1 with
    | str z hz => exact sl_str pins s σ H _ v vl vu lo hi sl Q I rx hs pl pu ⟨_, rfl, hz, q.same hold (.str _ (Nat.le_trans (cutS_len _ _ _) hz))⟩
  · cases el : slL d lo hi S with
    | none => rw [el] at e; cases e
    | some l =>
      rw [el] at e
      cases e
      unfold slL at el
      cases eq : seqL S d with
      | none => rw [eq] at el; cases el
      | some l0 =>
        rw [eq] at el
        cases el
        obtain ⟨p1, vs1, rfl, s1, z1, g1⟩ := seqL_ok hold r1 eq
        exact sl_list pins s σ H _ v vl vu lo hi sl Q I rx hs pl pu ⟨_, _, rfl, s1, q.lst hold (Nat.le_trans (cutD_len _ _ _) z1) (cutD_rep g1 lo hi)⟩
theorem sl_dSlL : SlR X (fun x lo hi H Q => ∃ γ hid S d d', Hold X.K T γ hid S H ∧ Rp X.K T γ (out γ S hid H) d x ∧ slL d lo hi S = some d' ∧ okL X.K T γ hid S H d' S Q) := by
  intro pins s σ H x v vl vu lo hi sl Q I rx hs pl pu h
  obtain ⟨γ, hid, S, d, d', hold, r1, e, q⟩ := h
  unfold slL at e
  cases eq : seqL S d with
  | none => rw [eq] at e; cases e
  | some l0 =>
    rw [eq] at e
    cases e
    obtain ⟨p1, vs1, rfl, s1, z1, g1⟩ := seqL_ok hold r1 eq
    exact sl_list pins s σ H _ v vl vu lo hi sl Q I rx hs pl pu ⟨_, _, rfl, s1, q.lst hold (Nat.le_trans (cutD_len _ _ _) z1) (cutD_rep g1 lo hi)⟩
variable {lo hi : Option Expr} {fl fh : En → M (Option Int)} {p2 : Pos}
theorem ev_slice (he : EvE X T EE e f) (hl : EvO X T EE lo fl) (hh : EvO X T EE hi fh) : EvE X T EE (.Subscript e (.Slice lo hi none p2) pos) (fun ρ => M.bind (f ρ) fun d => M.bind (fl ρ) fun i => M.bind (fh ρ) fun j => M.opt (slD d i j)) := by
  refine ⟨(pe_slice (sl_dSl (T := T)) he.pe hl.po hh.po).dimp fun σ H Q h => ?_⟩
  refine (show dG X.K T EE (repE X.K T) f σ H _ from ?_)
  obtain ⟨γ, hid, S, ρ, hold, env, h⟩ := h
  obtain ⟨_, _, _, _, h1, h2, h3⟩ := bindR (rep := repE X.K T) hold env h
  refine ⟨_, _, _, _, h1, h2, h3.imp fun x H1 ⟨d1, γ1, S1, q1, q2, q3, q4, q5⟩ => ?_⟩
  obtain ⟨_, _, _, _, h1, h2, h3⟩ := bindR (rep := fun _ _ a b => a = b) q1 q3 q5
  refine ⟨_, _, _, _, h1, h2, h3.imp fun i H2 ⟨i', γ2, S2, w1, w2, w3, w4, w5⟩ => ?_⟩
  cases w4
  obtain ⟨_, _, _, _, h1, h2, h3⟩ := bindR (rep := fun _ _ a b => a = b) w1 w3 w5
  refine ⟨_, _, _, _, h1, h2, h3.imp fun j H3 ⟨j', γ3, S3, u1, u2, u3, u4, u5⟩ => ?_⟩
  cases u4
  obtain ⟨d', e, w5⟩ := opt_ok u5
  exact ⟨γ3, hid, S3, d1, d', u1, u2.rp (w2.rp q4), e, w5⟩
theorem evL_slice (he : EvE X T EE e f) (hl : EvO X T EE lo fl) (hh : EvO X T EE hi fh) : EvL X T EE (.Subscript e (.Slice lo hi none p2) pos) (fun ρ => M.bind (f ρ) fun d => M.bind (fl ρ) fun i => M.bind (fh ρ) fun j => M.opt (slL d i j)) := by
  refine ⟨(pe_slice (sl_dSlL (T := T)) he.pe hl.po hh.po).dimp fun σ H Q h => ?_⟩
  refine (show dG X.K T EE (repE X.K T) f σ H _ from ?_)
  obtain ⟨γ, hid, S, ρ, hold, env, h⟩ := h
  obtain ⟨_, _, _, _, h1, h2, h3⟩ := bindR (rep := repE X.K T) hold env h
  refine ⟨_, _, _, _, h1, h2, h3.imp fun x H1 ⟨d1, γ1, S1, q1, q2, q3, q4, q5⟩ => ?_⟩
  obtain ⟨_, _, _, _, h1, h2, h3⟩ := bindR (rep := fun _ _ a b => a = b) q1 q3 q5
  refine ⟨_, _, _, _, h1, h2, h3.imp fun i H2 ⟨i', γ2, S2, w1, w2, w3, w4, w5⟩ => ?_⟩
  cases w4
  obtain ⟨_, _, _, _, h1, h2, h3⟩ := bindR (rep := fun _ _ a b => a = b) w1 w3 w5
  refine ⟨_, _, _, _, h1, h2, h3.imp fun j H3 ⟨j', γ3, S3, u1, u2, u3, u4, u5⟩ => ?_⟩
  cases u4
  obtain ⟨d', e, w5⟩ := opt_ok u5
  exact ⟨γ3, hid, S3, d1, d', u1, u2.rp (w2.rp q4), e, fun γ' H' vs a1 a2 a3 a4 => w5 γ' H' vs a1 a2 ⟨a3, a4⟩⟩
/-- xs[::-1] of a list -/
theorem evL_rev {k : Nat} {p1 p3 : Pos} (he : EvE X T EE e f) : EvL X T EE (.Subscript e (.Slice none none (some (.UnaryOp .USub (.Constant (.int 1) k p1) p2)) p3) pos) (fun ρ => M.bind (f ρ) fun d => M.opt fun S => (seqL S d).map List.reverse) := by
  refine ⟨(pe_revL he.pe).dimp fun σ H Q h => ?_⟩
  refine (show dG X.K T EE (repE X.K T) f σ H _ from ?_)
  obtain ⟨_, _, _, _, h1, h2, h3⟩ := bindD (rep := repE X.K T) h
  refine ⟨_, _, _, _, h1, h2, h3.imp fun x H1 ⟨d1, γ1, hid, S1, ρ, q1, q3, q4, q5⟩ => ?_⟩
  obtain ⟨l, e, w5⟩ := opt_ok q5
  cases eq : seqL S1 d1 with
  | none => rw [eq] at e; cases e
  | some l0 =>
    rw [eq] at e
    cases e
    obtain ⟨p1, vs1, rfl, s1, z1, g1⟩ := seqL_ok q1 q4 eq
    exact ⟨_, _, rfl, s1, w5 γ1 H1 _ q1 (Ext.refl _ _ _) ⟨by rw [List.length_reverse]; exact z1, g1.reverse⟩⟩
end
end DL
end
section
set_option maxHeartbeats 4000000
/-! DLf: built-in functions over data. -/
namespace DL
open PySem PySem.Spec L2
open PyProof.Rows hiding St
/-- a call by its data function -/
def rC (K : PySem.W.Frag) (T : Tab) (op : List D → Cells → Option D) : List V → Hp → VK → Prop := fun vs H Q => ∃ γ hid S ds d, Hold K T γ hid S H ∧ RpL K T γ (out γ S hid H) ds vs ∧ op ds S = some d ∧ okV K T γ hid S H d S Q
def rCL (K : PySem.W.Frag) (T : Tab) (op : List D → Cells → Option (List D)) : List V → Hp → VK → Prop := fun vs H Q => ∃ γ hid S ds l, Hold K T γ hid S H ∧ RpL K T γ (out γ S hid H) ds vs ∧ op ds S = some l ∧ okL K T γ hid S H l S Q
section
variable {X : Cx} {T : Tab} {EE : XX} {x : Str} {p pos : Pos} {e : Expr} {es : List Expr} {fs : En → M (List D)} {id tn : String}
theorem cb_read {K : PySem.W.Frag} {op : List D → Cells → Option D} {σ : St} {H : Hp} {Q : VK} (h : dE K T EE (fun ρ => M.bind (fs ρ) fun ds => M.opt (op ds)) σ H Q) : tCB (rC K T op) (dA K T EE fs) σ H Q := by
  refine (show dG K T EE (repA K T) fs σ H _ from ?_)
  obtain ⟨_, _, _, _, h1, h2, h3⟩ := bindD (rep := repA K T) h
  refine ⟨_, _, _, _, h1, h2, h3.imp fun vs H1 ⟨ds, γ1, hid, S1, ρ, q1, q3, q4, q5⟩ => ?_⟩
  obtain ⟨d, e, w5⟩ := opt_ok q5
  exact ⟨γ1, hid, S1, ds, d, q1, q4, e, w5⟩
theorem cbL_read {K : PySem.W.Frag} {op : List D → Cells → Option (List D)} {σ : St} {H : Hp} {Q : VK} (h : dL K T EE (fun ρ => M.bind (fs ρ) fun ds => M.opt (op ds)) σ H Q) : tCB (rCL K T op) (dA K T EE fs) σ H Q := by
  refine (show dG K T EE (repA K T) fs σ H _ from ?_)
  obtain ⟨_, _, _, _, h1, h2, h3⟩ := bindD (rep := repA K T) h
  refine ⟨_, _, _, _, h1, h2, h3.imp fun vs H1 ⟨ds, γ1, hid, S1, ρ, q1, q3, q4, q5⟩ => ?_⟩
  obtain ⟨d, e, w5⟩ := opt_ok q5
  exact ⟨γ1, hid, S1, ds, d, q1, q4, e, fun γ' H' vs a1 a2 z a3 => w5 γ' H' vs a1 a2 ⟨z, a3⟩⟩
theorem ev_cb {op : List D → Cells → Option D} (hc : CallR X (.builtin id) (rC X.K T op)) (hg : Gl X x) (hm : X.mg x = none) (hv : bootBuiltins x = some (.builtin id)) (ha : EvA X T EE (e :: es) fs) (hn : x ≠ "__name__" := by decide) (hdb : (x == ("__debug__" : Str)) = false := by decide)
    (he : starEach (e :: es) X.env = (false, eval e X.env) :: starEach es X.env := by rfl) (hpl : (backTo pos (starEach es X.env)).any (·.1) = false := by rfl) : EvE X T EE (.Call (.Name x p) (e :: es) [] pos) (fun ρ => M.bind (fs ρ) fun ds => M.opt (op ds)) :=
  ⟨(pe_callB hc hg hm hv ha.pa hn hdb he hpl).dimp fun σ H Q h => cb_read h⟩
theorem evL_cb {op : List D → Cells → Option (List D)} (hc : CallR X (.builtin id) (rCL X.K T op)) (hg : Gl X x) (hm : X.mg x = none) (hv : bootBuiltins x = some (.builtin id)) (ha : EvA X T EE (e :: es) fs) (hn : x ≠ "__name__" := by decide) (hdb : (x == ("__debug__" : Str)) = false := by decide)
    (he : starEach (e :: es) X.env = (false, eval e X.env) :: starEach es X.env := by rfl) (hpl : (backTo pos (starEach es X.env)).any (·.1) = false := by rfl) : EvL X T EE (.Call (.Name x p) (e :: es) [] pos) (fun ρ => M.bind (fs ρ) fun ds => M.opt (op ds)) :=
  ⟨(pe_callB hc hg hm hv ha.pa hn hdb he hpl).dimp fun σ H Q h => cbL_read h⟩
theorem ev_ct {op : List D → Cells → Option D} (hc : CallR X (.type tn) (rC X.K T op)) (hg : Gl X x) (hm : X.mg x = none) (hv : bootBuiltins x = some (.type tn)) (ha : EvA X T EE (e :: es) fs) (hn : x ≠ "__name__" := by decide) (hdb : (x == ("__debug__" : Str)) = false := by decide)
    (he : starEach (e :: es) X.env = (false, eval e X.env) :: starEach es X.env := by rfl) (hpl : (backTo pos (starEach es X.env)).any (·.1) = false := by rfl) : EvE X T EE (.Call (.Name x p) (e :: es) [] pos) (fun ρ => M.bind (fs ρ) fun ds => M.opt (op ds)) :=
  ⟨(pe_callTy hc hg hm hv ha.pa hn hdb he hpl).dimp fun σ H Q h => cb_read h⟩
theorem evL_ct {op : List D → Cells → Option (List D)} (hc : CallR X (.type tn) (rCL X.K T op)) (hg : Gl X x) (hm : X.mg x = none) (hv : bootBuiltins x = some (.type tn)) (ha : EvA X T EE (e :: es) fs) (hn : x ≠ "__name__" := by decide) (hdb : (x == ("__debug__" : Str)) = false := by decide)
    (he : starEach (e :: es) X.env = (false, eval e X.env) :: starEach es X.env := by rfl) (hpl : (backTo pos (starEach es X.env)).any (·.1) = false := by rfl) : EvL X T EE (.Call (.Name x p) (e :: es) [] pos) (fun ρ => M.bind (fs ρ) fun ds => M.opt (op ds)) :=
  ⟨(pe_callTy hc hg hm hv ha.pa hn hdb he hpl).dimp fun σ H Q h => cbL_read h⟩
/-! abs, min, max of two, int, str of an int, len, sum, all, any -/
def dAbs (ds : List D) (_ : Cells) : Option D := match ds with
  | [.int i] => some (.int (if i < 0 then -i else i))
  | _ => none
theorem rep1 {K : PySem.W.Frag} {γ : List Addr} {F : Hp} {d : D} {vs : List V} (r : RpL K T γ F [d] vs) : ∃ v, vs = [v] ∧ Rp K T γ F d v := by
  cases r with
  | cons a b =>
    cases b
    exact ⟨_, rfl, a⟩
theorem rep2 {K : PySem.W.Frag} {γ : List Addr} {F : Hp} {d e : D} {vs : List V} (r : RpL K T γ F [d, e] vs) : ∃ v u, vs = [v, u] ∧ Rp K T γ F d v ∧ Rp K T γ F e u := by
  cases r with
  | cons a b =>
    obtain ⟨u, rfl, c⟩ := rep1 b
    exact ⟨_, u, rfl, a, c⟩
theorem cb_abs : CallR X (.builtin "abs") (rC X.K T dAbs) := call_abs.dimp fun vs H Q h => by
  obtain ⟨γ, hid, S, ds, d, hold, r, e, q⟩ := h
  unfold dAbs at e
  split at e
  · cases e
    obtain ⟨v, rfl, r1⟩ := rep1 r
    cases r1
    exact ⟨_, rfl, q.same hold (.int _)⟩
  · cases e
def dMax2 (ds : List D) (_ : Cells) : Option D := match ds with
  | [.int i, .int j] => some (.int (if j > i then j else i))
  | _ => none
def dMin2 (ds : List D) (_ : Cells) : Option D := match ds with
  | [.int i, .int j] => some (.int (if j < i then j else i))
  | _ => none
theorem cb_max2 (hc : X.calm = true) : CallR X (.builtin "max") (rC X.K T dMax2) := (call_max2 hc).dimp fun vs H Q h => by
  obtain ⟨γ, hid, S, ds, d, hold, r, e, q⟩ := h
  unfold dMax2 at e
  split at e
  · cases e
    obtain ⟨v, u, rfl, r1, r2⟩ := rep2 r
    cases r1
    cases r2
    exact ⟨_, _, rfl, q.same hold (.int _)⟩
  · cases e
theorem cb_min2 (hc : X.calm = true) : CallR X (.builtin "min") (rC X.K T dMin2) := (call_min2 hc).dimp fun vs H Q h => by
  obtain ⟨γ, hid, S, ds, d, hold, r, e, q⟩ := h
  unfold dMin2 at e
  split at e
  · cases e
    obtain ⟨v, u, rfl, r1, r2⟩ := rep2 r
    cases r1
    cases r2
    exact ⟨_, _, rfl, q.same hold (.int _)⟩
  · cases e
def dInt (ds : List D) (_ : Cells) : Option D := match ds with
  | [.int i] => some (.int i)
  | [.bl b] => some (.int (if b then 1 else 0))
  | _ => none
theorem ct_int : CallR X (.type "int") (rC X.K T dInt) := call_int1.dimp fun vs H Q h => by
  obtain ⟨γ, hid, S, ds, d, hold, r, e, q⟩ := h
  unfold dInt at e
  split at e
  · cases e
    obtain ⟨v, rfl, r1⟩ := rep1 r
    cases r1
    exact .inl ⟨_, rfl, q.same hold (.int _)⟩
  · cases e
    obtain ⟨v, rfl, r1⟩ := rep1 r
    cases r1
    exact .inr ⟨_, rfl, q.same hold (.int _)⟩
  · cases e
def dLen (ds : List D) (S : Cells) : Option D := match ds with
  | [.str x] => some (.int x.length)
  | [.tup l] => some (.int l.length)
  | [d] => (seqL S d).map fun l => .int l.length
  | _ => none
theorem cb_len : CallR X (.builtin "len") (rC X.K T dLen) := call_len.dimp fun vs H Q h => by
  obtain ⟨γ, hid, S, ds, d, hold, r, e, q⟩ := h
  unfold dLen at e
  split at e
  · cases e
    obtain ⟨v, rfl, r1⟩ := rep1 r
    cases r1 with
    | str x z => exact ⟨_, _, rfl, ⟨z, rfl⟩, q.same hold (.int _)⟩
  · cases e
    obtain ⟨v, rfl, r1⟩ := rep1 r
    cases r1 with
    | tup a z b => exact ⟨_, _, rfl, .inr ⟨_, same_seqT (out_sub _ _ _ _) a, b.length⟩, q.same hold (.int _)⟩
  · rename_i d0 _ _
    obtain ⟨v, rfl, r1⟩ := rep1 r
    cases eq : seqL S d0 with
    | none => rw [eq] at e; cases e
    | some l =>
      rw [eq] at e
      cases e
      obtain ⟨a, ws, rfl, s1, z, g⟩ := seqL_ok hold r1 eq
      exact ⟨_, _, rfl, .inl ⟨_, s1, g.length⟩, q.same hold (.int _)⟩
  · cases e
def listOf (ds : List D) (S : Cells) : Option (List D) := match ds with
  | [d] => seqL S d
  | _ => none
def dSum (ds : List D) (S : Cells) : Option D := ((listOf ds S).bind ints?).map fun ns => .int ns.sum
theorem intsOf_ok {K : PySem.W.Frag} {γ hid : List Addr} {S : Cells} {H : Hp} {ds : List D} {vs : List V} {ns : List Int} (hold : Hold K T γ hid S H) (r : RpL K T γ (out γ S hid H) ds vs) (e : (listOf ds S).bind ints? = some ns) :
    ∃ a, vs = [.ref a] ∧ SqL K H a (ns.map V.int) ∧ ns.length ≤ sizeLine := by
  cases el : listOf ds S with
  | none => rw [el] at e; cases e
  | some l =>
    rw [el] at e
    unfold listOf at el
    split at el
    · obtain ⟨v, rfl, r1⟩ := rep1 r
      obtain ⟨a, ws, rfl, s1, z, g⟩ := seqL_ok hold r1 el
      obtain ⟨h1, h2⟩ := ints?_rep g e
      subst h1
      subst h2
      exact ⟨a, rfl, s1, by rw [List.length_map] at z; exact z⟩
    · cases el
theorem cb_sum (hc : X.calm = true) : CallR X (.builtin "sum") (rC X.K T dSum) := (cr_sum hc).dimp fun vs H Q h => by
  obtain ⟨γ, hid, S, ds, d, hold, r, e, q⟩ := h
  unfold dSum at e
  cases ei : (listOf ds S).bind ints? with
  | none => rw [ei] at e; cases e
  | some ns =>
    rw [ei] at e
    cases e
    obtain ⟨a, rfl, s1, _⟩ := intsOf_ok hold r ei
    exact ⟨a, ns, rfl, s1, q.same hold (.int _)⟩
theorem blsOf_ok {K : PySem.W.Frag} {γ hid : List Addr} {S : Cells} {H : Hp} {ds : List D} {vs : List V} {ns : List Bool} (hold : Hold K T γ hid S H) (r : RpL K T γ (out γ S hid H) ds vs) (e : (listOf ds S).bind bls? = some ns) :
    ∃ a, vs = [.ref a] ∧ SqL K H a (ns.map V.bl) := by
  cases el : listOf ds S with
  | none => rw [el] at e; cases e
  | some l =>
    rw [el] at e
    unfold listOf at el
    split at el
    · obtain ⟨v, rfl, r1⟩ := rep1 r
      obtain ⟨a, ws, rfl, s1, z, g⟩ := seqL_ok hold r1 el
      obtain ⟨h1, h2⟩ := bls?_rep g e
      subst h1
      exact ⟨a, rfl, s1⟩
    · cases el
def dAll (ds : List D) (S : Cells) : Option D := ((listOf ds S).bind bls?).map fun bs => .bl (bs.all _root_.id)
def dAny (ds : List D) (S : Cells) : Option D := ((listOf ds S).bind bls?).map fun bs => .bl (bs.any _root_.id)
theorem cb_all (hc : X.calm = true) : CallR X (.builtin "all") (rC X.K T dAll) := (cr_all hc).dimp fun vs H Q h => by
  obtain ⟨γ, hid, S, ds, d, hold, r, e, q⟩ := h
  unfold dAll at e
  cases ei : (listOf ds S).bind bls? with
  | none => rw [ei] at e; cases e
  | some ns =>
    rw [ei] at e
    cases e
    obtain ⟨a, rfl, s1⟩ := blsOf_ok hold r ei
    exact ⟨a, ns, rfl, s1, q.same hold (.bl _)⟩
theorem cb_any (hc : X.calm = true) : CallR X (.builtin "any") (rC X.K T dAny) := (cr_any hc).dimp fun vs H Q h => by
  obtain ⟨γ, hid, S, ds, d, hold, r, e, q⟩ := h
  unfold dAny at e
  cases ei : (listOf ds S).bind bls? with
  | none => rw [ei] at e; cases e
  | some ns =>
    rw [ei] at e
    cases e
    obtain ⟨a, rfl, s1⟩ := blsOf_ok hold r ei
    exact ⟨a, ns, rfl, s1, q.same hold (.bl _)⟩
/-! list(x), tuple(x) of lists and tuples -/
def dListOf (ds : List D) (S : Cells) : Option (List D) := match ds with
  | [.tup l] => some l
  | [d] => seqL S d
  | _ => none
theorem ct_list : CallR X (.type "list") (rCL X.K T dListOf) := call_list_of.dimp fun vs H Q h => by
  obtain ⟨γ, hid, S, ds, l, hold, r, e, q⟩ := h
  unfold dListOf at e
  split at e
  · cases e
    obtain ⟨v, rfl, r1⟩ := rep1 r
    cases r1 with
    | tup a z b => exact ⟨_, _, rfl, .inr (same_seqT (out_sub _ _ _ _) a), q.lst hold z b⟩
  · obtain ⟨v, rfl, r1⟩ := rep1 r
    obtain ⟨a, ws, rfl, s1, z, g⟩ := seqL_ok hold r1 e
    exact ⟨_, _, rfl, .inl s1, q.lst hold z g⟩
  · cases e
def dTupleOf (ds : List D) (S : Cells) : Option D := match ds with
  | [.tup l] => some (.tup l)
  | [d] => (seqL S d).map .tup
  | _ => none
theorem ct_tuple : CallR X (.type "tuple") (rC X.K T dTupleOf) := call_tuple_of.dimp fun vs H Q h => by
  obtain ⟨γ, hid, S, ds, d, hold, r, e, q⟩ := h
  unfold dTupleOf at e
  split at e
  · cases e
    obtain ⟨v, rfl, r1⟩ := rep1 r
    cases r1 with
    | tup a z b => exact ⟨_, _, rfl, .inr ⟨same_seqT (out_sub _ _ _ _) a, q.same hold (.tup a z b)⟩⟩
  · rename_i d0 _
    obtain ⟨v, rfl, r1⟩ := rep1 r
    cases eq : seqL S d0 with
    | none => rw [eq] at e; cases e
    | some l =>
      rw [eq] at e
      cases e
      obtain ⟨a, ws, rfl, s1, z, g⟩ := seqL_ok hold r1 eq
      exact ⟨_, _, rfl, .inl ⟨s1, q.tup hold z g⟩⟩
  · cases e
/-! min, max of ints in a list or a tuple -/
def minI (x : Int) (xs : List Int) : Int := PySem.W.minOf x xs
def maxI (x : Int) (xs : List Int) : Int := PySem.W.maxOf x xs
def seqA (S : Cells) : D → Option (List D)
  | .tup l => some l
  | d => seqL S d
def dMinL (ds : List D) (S : Cells) : Option D := match ds with
  | [d] => match (seqA S d).bind ints? with
    | some (x :: xs) => some (.int (minI x xs))
    | _ => none
  | _ => none
def dMaxL (ds : List D) (S : Cells) : Option D := match ds with
  | [d] => match (seqA S d).bind ints? with
    | some (x :: xs) => some (.int (maxI x xs))
    | _ => none
  | _ => none
theorem seqA_ok {K : PySem.W.Frag} {γ hid : List Addr} {S : Cells} {H : Hp} (h : Hold K T γ hid S H) {d : D} {v : V} {l : List D} (r : Rp K T γ (out γ S hid H) d v) (e : seqA S d = some l) : ∃ a vs, v = .ref a ∧ (SqL K H a vs ∨ SqT K H a vs) ∧ l.length ≤ sizeLine ∧ RpL K T γ (out γ S hid H) l vs := by
  unfold seqA at e
  split at e
  · cases e
    obtain ⟨a, vs, h1, h2, h3, h4⟩ := seqT_ok r rfl
    exact ⟨a, vs, h1, .inr h2, h3, h4⟩
  · obtain ⟨a, vs, h1, h2, h3, h4⟩ := seqL_ok h r e
    exact ⟨a, vs, h1, .inl h2, h3, h4⟩
theorem cb_minL (hc : X.calm = true) (hu : X.A.units + 64 < cLine) : CallR X (.builtin "min") (rC X.K T dMinL) := by
  intro pins s σ H vs us Q I rv h
  obtain ⟨γ, hid, S, ds, d, hold, r, e, q⟩ := h
  unfold dMinL at e
  split at e
  · rename_i d0
    split at e
    · rename_i x xs ei
      cases e
      obtain ⟨v, rfl, r1⟩ := rep1 r
      cases es : seqA S d0 with
      | none => rw [es] at ei; cases ei
      | some l =>
        rw [es] at ei
        obtain ⟨a, ws, rfl, s1, z, g⟩ := seqA_ok hold r1 es
        obtain ⟨h1, h2⟩ := ints?_rep g ei
        subst h1
        rw [Vals.ref1 rv]
        have fin : ∀ (v : Value) (h' : Heap) (tk : Nat), PySem.W.Holds h' v (PySem.W.minOf x xs) → (∀ b o, s.heap.get? b = some o → h'.get? b = some o) → EP X pins σ Q v { s with heap := h', toks := tk } := fun v h' tk hv hk => by
          obtain ⟨t, rfl⟩ := PySem.W.int_of_holds hv
          exact ⟨.int _, H, I.kept hk, ⟨t, rfl⟩, q.same hold (.int _)⟩
        have room : X.A.units + 1 + PySem.W.Datum.depth Int < cLine := by
          show X.A.units + 1 + 0 < cLine
          omega
        rcases s1 with s1 | s1
        · obtain ⟨its, rw', pl, _⟩ := I.list s1
          exact PySem.W.min_list_datum (x := x) (xs := xs) (I.ok.hd hc) pl.isList (PySem.W.HoldAll.of_ints rw'.ints) room fun i v h' tk _ hv hk => fin v h' tk hv hk
        · obtain ⟨its, rw', pl, _⟩ := I.tuple s1
          exact PySem.W.min_tuple_datum (x := x) (xs := xs) (I.ok.hd hc) pl (PySem.W.HoldAll.of_ints rw'.ints) room fun i v h' tk _ hv hk => fin v h' tk hv hk
    · cases e
  · cases e
theorem cb_maxL (hc : X.calm = true) (hu : X.A.units + 64 < cLine) : CallR X (.builtin "max") (rC X.K T dMaxL) := by
  intro pins s σ H vs us Q I rv h
  obtain ⟨γ, hid, S, ds, d, hold, r, e, q⟩ := h
  unfold dMaxL at e
  split at e
  · rename_i d0
    split at e
    · rename_i x xs ei
      cases e
      obtain ⟨v, rfl, r1⟩ := rep1 r
      cases es : seqA S d0 with
      | none => rw [es] at ei; cases ei
      | some l =>
        rw [es] at ei
        obtain ⟨a, ws, rfl, s1, z, g⟩ := seqA_ok hold r1 es
        obtain ⟨h1, h2⟩ := ints?_rep g ei
        subst h1
        rw [Vals.ref1 rv]
        have fin : ∀ (v : Value) (h' : Heap) (tk : Nat), PySem.W.Holds h' v (PySem.W.maxOf x xs) → (∀ b o, s.heap.get? b = some o → h'.get? b = some o) → EP X pins σ Q v { s with heap := h', toks := tk } := fun v h' tk hv hk => by
          obtain ⟨t, rfl⟩ := PySem.W.int_of_holds hv
          exact ⟨.int _, H, I.kept hk, ⟨t, rfl⟩, q.same hold (.int _)⟩
        have room : X.A.units + 1 + PySem.W.Datum.depth Int < cLine := by
          show X.A.units + 1 + 0 < cLine
          omega
        rcases s1 with s1 | s1
        · obtain ⟨its, rw', pl, _⟩ := I.list s1
          exact PySem.W.max_list_datum (x := x) (xs := xs) (I.ok.hd hc) pl.isList (PySem.W.HoldAll.of_ints rw'.ints) room fun i v h' tk _ hv hk => fin v h' tk hv hk
        · obtain ⟨its, rw', pl, _⟩ := I.tuple s1
          exact PySem.W.max_tuple_datum (x := x) (xs := xs) (I.ok.hd hc) pl (PySem.W.HoldAll.of_ints rw'.ints) room fun i v h' tk _ hv hk => fin v h' tk hv hk
    · cases e
  · cases e
/-! repr -/
def reprD (ds : List D) (S : Cells) : Option D := match ds with
  | [.int i] => if i.natAbs.log2 < 1920 ∧ (toString i : Str).length ≤ sizeLine then some (.str (toString i)) else none
  | [.non] => some (.str "None")
  | [d] => match vw S d with
    | some p => match p with
      | .list _ => if p.showable = true ∧ p.hasDict = false ∧ p.depth ≤ 60 ∧ p.shown.length ≤ sizeLine then some (.str p.shown) else none
      | .tuple _ => if p.showable = true ∧ p.hasDict = false ∧ p.depth ≤ 60 ∧ p.shown.length ≤ sizeLine then some (.str p.shown) else none
      | _ => none
    | none => none
  | _ => none
theorem repr_ref (hu : X.A.units + 64 < cLine) (nr : NoRepr X.A) {pins : List (Addr × Obj)} {s : Shared} {σ : St} {H : Hp} {us : List Value} {Q : VK} {v : V} {p : PyData} (I : Inv X pins σ H s) (rv : Vals [v] us) (dp : Dp X.K H v p) (hp : (∃ l, p = .list l) ∨ ∃ l, p = .tuple l)
    (z : p.showable = true ∧ p.hasDict = false ∧ p.depth ≤ 60 ∧ p.shown.length ≤ sizeLine) (q : Q (.str p.shown) H) : wpAny (model X.prog X.w) X.A (call (.builtin "repr") us) (EP X pins σ Q) X.xe s := by
  obtain ⟨u, rfl, ru⟩ := vals1 rv
  obtain ⟨as, rd⟩ := Dp.reads I p v u dp ru
  have hr : ∃ a, v = .ref a := by
    rcases hp with ⟨l, rfl⟩ | ⟨l, rfl⟩ <;> cases dp <;> exact ⟨_, rfl⟩
  obtain ⟨a, rfl⟩ := hr
  obtain rfl : u = Value.ref a := ru
  obtain ⟨z1, z2, z3, z4⟩ := z
  exact repr_of_reads' rd z1 (fun h => by rw [z2] at h; cases h) nr (by omega) (fun _ _ z => z) (fun h' u tk hk => ⟨.str _, H, I.kept hk, ⟨u, rfl⟩, q⟩) z4
theorem cb_repr (hu : X.A.units + 64 < cLine) (nr : NoRepr X.A) : CallR X (.builtin "repr") (rC X.K T reprD) := by
  intro pins s σ H vs us Q I rv h
  obtain ⟨γ, hid, S, ds, d, hold, r, e, q⟩ := h
  unfold reprD at e
  split at e
  · split at e
    · cases e
      rename_i z
      obtain ⟨v, rfl, r1⟩ := rep1 r
      cases r1
      obtain ⟨u, rfl, ru⟩ := vals1 rv
      obtain ⟨t, rfl⟩ := ru
      exact PySem.P.repr_of_int z.1 ⟨.str _, H, I.tok _, ⟨_, rfl⟩, q.same hold (.str _ z.2)⟩
    · cases e
  · cases e
    obtain ⟨v, rfl, r1⟩ := rep1 r
    cases r1
    obtain ⟨u, rfl, ru⟩ := vals1 rv
    obtain rfl : u = Value.none := ru
    exact PySem.P.repr_of_none ⟨.str _, H, I.tok _, ⟨_, rfl⟩, q.same hold (.str _ (by decide +kernel))⟩
  · rename_i d0 _ _
    obtain ⟨v, rfl, r1⟩ := rep1 r
    split at e
    · rename_i p ev
      have dp := vw_ok hold r1 ev
      split at e
      · split at e
        · cases e
          rename_i z
          exact repr_ref hu nr I rv dp (.inl ⟨_, rfl⟩) z (q.same hold (.str _ z.2.2.2))
        · cases e
      · split at e
        · cases e
          rename_i z
          exact repr_ref hu nr I rv dp (.inr ⟨_, rfl⟩) z (q.same hold (.str _ z.2.2.2))
        · cases e
      · cases e
    · cases e
  · cases e
/-! isinstance with a built-in class -/
/-- the name of a value's class -/
def tyName : D → Option String
  | .non => some "NoneType"
  | .bl _ => some "bool"
  | .int _ => some "int"
  | .str _ => some "str"
  | .lst _ => some "list"
  | .ref _ => some "list"
  | .tup _ => some "tuple"
  | .obj _ _ => none
theorem tyX_of {K : PySem.W.Frag} {γ hid : List Addr} {S : Cells} {H : Hp} (h : Hold K T γ hid S H) {d : D} {v : V} {n : String} (r : Rp K T γ (out γ S hid H) d v) (e : tyName d = some n) (hl : ∀ k, d = .ref k → (seqL S d).isSome = true) : TyX K H v (.type n) := by
  cases r with
  | non => cases e; exact .base .non
  | bl b => cases e; exact .base (.bl b)
  | int i => cases e; exact .base (.int i)
  | str x z => cases e; exact .base (.str x)
  | lst a z b =>
    cases e
    rcases (out_sub _ _ _ _).seq a with (a | ⟨o, a⟩) | ⟨o, its, m, h1, h2, _⟩
    · exact .base (.lst a)
    · exact .base (.frz a)
    · exact .kList h1 h2
  | tup a z b =>
    cases e
    rcases same_seqT (out_sub _ _ _ _) a with (a | ⟨o, a⟩) | ⟨o, its, m, h1, h2, _⟩
    · exact .base (.tup a)
    · exact .fTuple a
    · exact .kTuple h1 h2
  | ref a =>
    rename_i k _
    cases e
    cases q : seqL S (.ref k) with
    | none =>
      have z := hl k rfl
      rw [q] at z
      cases z
    | some l =>
      obtain ⟨p, vs, e1, s1, _, _⟩ := seqL_ok h (Rp.ref (K := K) (T := T) (F := out γ S hid H) a) q
      cases e1
      rcases s1 with (s1 | ⟨o, s1⟩) | ⟨o, its, m, h1, h2, _⟩
      · exact .base (.lst s1)
      · exact .base (.frz s1)
      · exact .kList h1 h2
  | obj a b c => cases e
def isiD (tab : String → Bool) (d : D) (S : Cells) : Option D := match tyName d with
  | some n => match d with
    | .ref _ => if (seqL S d).isSome = true then some (.bl (tab n)) else none
    | _ => some (.bl (tab n))
  | none => none
def tyNames : List String := ["NoneType", "bool", "int", "str", "list", "tuple"]
theorem tyName_mem {d : D} {n : String} (e : tyName d = some n) : n ∈ tyNames := by
  cases d <;> cases e <;> decide
theorem ev_isi {f : En → M D} {x2 : Str} {p2 : Pos} (tab : String → Bool) (hk : ∀ a ∈ tyNames, kitB a tn = some (tab a)) (hg : Gl X "isinstance") (hm : X.mg "isinstance" = none) (hv : bootBuiltins "isinstance" = some (.builtin "isinstance")) (he : EvE X T EE e f) (hg2 : Gl X x2) (hm2 : X.mg x2 = none) (hv2 : bootBuiltins x2 = some (.type tn))
    (hn2 : x2 ≠ "__name__" := by decide) (hd2 : (x2 == ("__debug__" : Str)) = false := by decide)
    (hs : starEach [e, .Name x2 p2] X.env = (false, eval e X.env) :: starEach [.Name x2 p2] X.env := by rfl) (hpl : (backTo pos (starEach [.Name x2 p2] X.env)).any (·.1) = false := by rfl) (hs3 : starEach [.Name x2 p2] X.env = (false, eval (.Name x2 p2) X.env) :: starEach [] X.env := by rfl) :
    EvE X T EE (.Call (.Name "isinstance" p) [e, .Name x2 p2] [] pos) (fun ρ => M.bind (f ρ) fun d => M.opt (isiD tab d)) := by
  have ha : PA X [e, .Name x2 p2] (tCons (dE X.K T EE f) (tCons (tC (.ty tn)) tNil)) := pa_cons he.pe (pa_cons (pe_bltn hg2 hm2 hv2 rfl hn2 hd2) pa_nil hs3) hs
  refine ⟨(pe_callB call_isi hg hm hv ha (by decide) (by decide) hs hpl).dimp fun σ H Q h => ?_⟩
  refine (show dG X.K T EE (repE X.K T) f σ H _ from ?_)
  obtain ⟨_, _, _, _, h1, h2, h3⟩ := bindD (rep := repE X.K T) h
  refine ⟨_, _, _, _, h1, h2, h3.imp fun v H1 ⟨d, γ1, hid, S1, ρ, q1, q3, q4, q5⟩ => ?_⟩
  obtain ⟨r, er, w5⟩ := opt_ok q5
  unfold isiD at er
  split at er
  · rename_i n en
    have fin : d ≠ d ∨ (∀ k, d = .ref k → (seqL S1 d).isSome = true) → some (D.bl (tab n)) = some r → rIsi X.K [v, .ty tn] H1 Q := fun hl er => by
      cases er
      have hl := hl.resolve_left (fun z => z rfl)
      exact ⟨v, .ty tn, .type n, .type tn, tab n, rfl, .ty tn, tyX_of q1 q4 en hl, kit_ty (hk n (tyName_mem en)), w5 γ1 H1 _ q1 (Ext.refl _ _ _) (.bl _)⟩
    split at er
    · split at er
      · rename_i hz
        exact fin (.inr fun k _ => hz) er
      · cases er
    · rename_i hne
      exact fin (.inr fun k ek => absurd ek (hne k)) er
  · cases er
end
end DL
end
section
set_option maxHeartbeats 4000000
/-! DLg: sorted, sets of ints, ranges as lists, slices with a step, methods of lists, stores. -/
namespace DL
open PySem PySem.Spec L2
open PyProof.Rows hiding St

/-! ### sorted -/
def leB (a b : Int) : Bool := decide (a ≤ b)
def leP (p q : Int × Int) : Bool := !SrtO.lexB q p
def sortI (ns : List Int) : List Int := ns.mergeSort leB
def sortP (ps : List (Int × Int)) : List (Int × Int) := ps.mergeSort leP
theorem sortI_uniq {ns ms : List Int} (h : ms.Perm ns) (s : ms.Pairwise (· ≤ ·)) : ms = sortI ns := by
  refine List.Perm.eq_of_pairwise (le := fun a b : Int => a ≤ b) (fun a b _ _ h1 h2 => by omega) s ?_ (h.trans (List.mergeSort_perm ns leB).symm)
  have := List.pairwise_mergeSort (le := leB) (fun a b c h1 h2 => by
    have a1 : a ≤ b := of_decide_eq_true h1
    have a2 : b ≤ c := of_decide_eq_true h2
    exact decide_eq_true (by omega)) (fun a b => by
    unfold leB
    rcases Int.le_total a b with h | h <;> simp [h]) ns
  exact this.imp fun {a b} h => of_decide_eq_true h
theorem sortP_uniq {ns ms : List (Int × Int)} (h : ms.Perm ns) (s : ms.Pairwise (fun x y => SrtO.lexB y x = false)) : ms = sortP ns := by
  refine List.Perm.eq_of_pairwise (le := fun x y : Int × Int => SrtO.lexB y x = false) (fun a b _ _ h1 h2 => ?_) s ?_ (h.trans (List.mergeSort_perm ns leP).symm)
  · have a1 := SrtO.lexB_no.mp h1
    have a2 := SrtO.lexB_no.mp h2
    exact Prod.ext (by omega) (by omega)
  · have := List.pairwise_mergeSort (le := leP) (fun a b c h1 h2 => by
      unfold leP at *
      simp only [Bool.not_eq_true'] at *
      have a1 := SrtO.lexB_no.mp h1
      have a2 := SrtO.lexB_no.mp h2
      exact SrtO.lexB_no.mpr (by omega)) (fun a b => by
      unfold leP
      cases e1 : SrtO.lexB b a with
      | false => simp
      | true =>
        have q := SrtO.lexB_iff.mp e1
        have : SrtO.lexB a b = false := SrtO.lexB_no.mpr (by omega)
        simp [this]) ns
    exact this.imp fun {a b} h => by
      unfold leP at h
      simpa using h
def encP (p : Int × Int) : D := .tup [.int p.1, .int p.2]
def pair? : D → Option (Int × Int)
  | .tup [.int a, .int b] => some (a, b)
  | _ => none
theorem pair?_enc {d : D} {p : Int × Int} (e : pair? d = some p) : d = encP p := by
  unfold pair? at e
  split at e
  · cases e
    rfl
  · cases e
def pairs? : List D → Option (List (Int × Int))
  | [] => some []
  | d :: ds => match pair? d, pairs? ds with
    | some p, some ps => some (p :: ps)
    | _, _ => none
theorem pairs?_enc : ∀ {ds : List D} {ps : List (Int × Int)}, pairs? ds = some ps → ds = ps.map encP
  | [], ps, e => by cases e; rfl
  | d :: ds, ps, e => by
    unfold pairs? at e
    cases h1 : pair? d with
    | none => rw [h1] at e; cases e
    | some p =>
      cases h2 : pairs? ds with
      | none => rw [h1, h2] at e; cases e
      | some qs =>
        rw [h1, h2] at e
        cases e
        rw [List.map_cons, ← pair?_enc h1, ← pairs?_enc h2]
theorem pairs?_map (ps : List (Int × Int)) : pairs? (ps.map encP) = some ps := by
  induction ps with
  | nil => rfl
  | cons p ps ih =>
    rw [List.map_cons]
    unfold pairs?
    rw [ih]
    rfl
def sortD (ds : List D) (S : Cells) : Option (List D) := match listOf ds S with
  | some l => match ints? l with
    | some ns => some ((sortI ns).map .int)
    | none => match pairs? l with
      | some ps => some ((sortP ps).map encP)
      | none => none
  | none => none
/-- the pair that a value shows in a heap -/
def kH (h : Heap) : Value → Int × Int
  | .ref a => match h.get? a with
    | some o => match o.data with
      | .seq xs _ => match xs.toList with
        | [.int a _, .int b _] => (a, b)
        | _ => (0, 0)
      | _ => (0, 0)
    | none => (0, 0)
  | _ => (0, 0)
section
variable {X : Cx} {T : Tab} {EE : XX}
theorem listOf_ok {K : PySem.W.Frag} {γ hid : List Addr} {S : Cells} {H : Hp} {ds : List D} {vs : List V} {l : List D} (hold : Hold K T γ hid S H) (r : RpL K T γ (out γ S hid H) ds vs) (e : listOf ds S = some l) :
    ∃ a ws, vs = [.ref a] ∧ SqL K H a ws ∧ l.length ≤ sizeLine ∧ RpL K T γ (out γ S hid H) l ws := by
  unfold listOf at e
  split at e
  · obtain ⟨v, rfl, r1⟩ := rep1 r
    obtain ⟨a, ws, rfl, s1, z, g⟩ := seqL_ok hold r1 e
    exact ⟨a, ws, rfl, s1, z, g⟩
  · cases e
/-- a represented pair, in the heap -/
theorem pair_at {pins : List (Addr × Obj)} {s : Shared} {σ : St} {H : Hp} {γ hid : List Addr} {S : Cells} (I : Inv X pins σ H s) {p : Int × Int} {v : V} {u : Value} (r : Rp X.K T γ (out γ S hid H) (encP p) v) (ru : RelV v u) : Srt.IsPair s.heap u p.1 p.2 ∧ kH s.heap u = p ∧ ∃ t, u = .ref t := by
  obtain ⟨a, ws, rfl, s1, z, g⟩ := seqT_ok r rfl
  obtain ⟨v1, v2, rfl, g1, g2⟩ := rep2 g
  cases g1
  cases g2
  obtain rfl : u = Value.ref a := ru
  obtain ⟨its, rv, ⟨o, ho, hc, n, hd⟩, _⟩ := I.tuple s1
  obtain ⟨u1, u2, rfl, q1, q2⟩ := vals2 rv
  obtain ⟨t1, rfl⟩ := q1
  obtain ⟨t2, rfl⟩ := q2
  refine ⟨⟨a, o, t1, t2, n, rfl, ho, hc, hd⟩, ?_, a, rfl⟩
  unfold kH
  simp only [ho, hd]
theorem zip_pairs {pins : List (Addr × Obj)} {s : Shared} {σ : St} {H : Hp} {γ hid : List Addr} {S : Cells} (I : Inv X pins σ H s) : ∀ {ps : List (Int × Int)} {ws : List V} {its : List Value}, RpL X.K T γ (out γ S hid H) (ps.map encP) ws → Vals ws its →
    its.map (kH s.heap) = ps ∧ (∀ u ∈ its, ∃ t, u = Value.ref t) ∧ (∀ u ∈ its, Srt.IsPair s.heap u (kH s.heap u).1 (kH s.heap u).2 ∧ Rp X.K T γ (out γ S hid H) (encP (kH s.heap u)) (backV u))
  | [], _, _, r, v => by
    cases r
    cases v
    exact ⟨rfl, fun _ h => absurd h (by simp), fun _ h => absurd h (by simp)⟩
  | p :: ps, _, _, r, v => by
    cases r with
    | cons r1 r2 =>
      cases v with
      | cons v1 v2 =>
        obtain ⟨h1, h2, h3⟩ := zip_pairs I r2 v2
        obtain ⟨k1, k2, t, rfl⟩ := pair_at I r1 v1
        refine ⟨by rw [List.map_cons, k2, h1], fun u hu => ?_, fun u hu => ?_⟩
        · rcases List.mem_cons.mp hu with e | hu
          · exact ⟨t, e⟩
          · exact h2 u hu
        · rcases List.mem_cons.mp hu with e | hu
          · subst e
            rw [k2]
            refine ⟨k1, ?_⟩
            have e : backV (.ref t) = _ := RelV.inj (u := Value.ref t) rfl v1
            rw [e]
            exact r1
          · exact h3 u hu
theorem rep_map {K : PySem.W.Frag} {γ : List Addr} {F : Hp} {α : Type} (f : α → D) (g : α → V) : ∀ (l : List α), (∀ a ∈ l, Rp K T γ F (f a) (g a)) → RpL K T γ F (l.map f) (l.map g)
  | [], _ => .nil
  | a :: l, h => .cons (h a List.mem_cons_self) (rep_map f g l fun b hb => h b (List.mem_cons_of_mem _ hb))
theorem cb_sorted : CallR X (.builtin "sorted") (rCL X.K T sortD) := by
  intro pins s σ H vs us Q I rv h
  obtain ⟨γ, hid, S, ds, l, hold, r, e, q⟩ := h
  unfold sortD at e
  split at e
  · rename_i l0 el
    obtain ⟨a, ws, rfl, s1, z, g⟩ := listOf_ok hold r el
    split at e
    · rename_i ns en
      cases e
      obtain ⟨h1, h2⟩ := ints?_rep g en
      subst h1
      refine cr_sortedI pins s σ H _ us Q I rv ⟨a, ns, rfl, s1, fun ns' p hp hs np => ?_⟩
      rw [sortI_uniq hp hs]
      have z2 : ((sortI ns).map D.int).length ≤ sizeLine := by
        rw [List.length_map]
        unfold sortI
        rw [(List.mergeSort_perm ns leB).length_eq]
        rw [h2, List.length_map] at z
        exact z
      exact q.lst hold z2 (rep_ints _) p np
    · split at e
      · rename_i ps ep
        cases e
        have e0 := pairs?_enc ep
        subst e0
        obtain ⟨its, rv2, hl, hz⟩ := I.list s1
        obtain ⟨u, rfl, ru⟩ := vals1 rv
        obtain rfl : u = Value.ref a := ru
        obtain ⟨k1, k2, k3⟩ := zip_pairs I g rv2
        refine SrtO.sorted_pairsO (k := kH s.heap) hl.isList (by rw [← rv2.length]; exact hz) (fun v hv => (k3 v hv).1) fun h' d out h1 h2 kp hd hn => ?_
        obtain ⟨n, hn⟩ := hn
        have h3 : ∀ u ∈ out, ∃ t, u = Value.ref t := fun u hu => k2 u (h2.perm.mem_iff.mp hu)
        have ho : out.map (kH s.heap) = sortP ps := by
          refine sortP_uniq ?_ ?_
          · rw [← k1]
            exact h2.perm.map _
          · exact List.pairwise_map.mpr h1
        have hlen : (out.map backV).length ≤ sizeLine := by
          rw [List.length_map, h2.perm.length_eq, ← rv2.length]
          exact hz
        refine ⟨.ref d, upd H d (.lst (out.map backV)), I.laid (t' := s.toks) kp hd ⟨hlen, out, n, vals_back h3, hn⟩, rfl, ?_⟩
        refine q.lst hold ?_ ?_ d (I.hok.fresh hd)
        · rw [List.length_map, ← ho, List.length_map]
          rw [List.length_map] at hlen
          exact hlen
        · rw [← ho, List.map_map]
          exact rep_map (encP ∘ kH s.heap) backV out fun u hu => (k3 u (h2.perm.mem_iff.mp hu)).2
      · cases e
  · cases e
/-! ### sorted(set(a list of ints)) -/
def insS (x : Int) : List Int → List Int
  | [] => [x]
  | y :: ys => if x < y then x :: y :: ys else if x = y then y :: ys else y :: insS x ys
def setSort (ns : List Int) : List Int := ns.foldr insS []
theorem insS_mem (x : Int) : ∀ (l : List Int) (k : Int), k ∈ insS x l ↔ k = x ∨ k ∈ l
  | [], k => by simp [insS]
  | y :: ys, k => by
    unfold insS
    split
    · simp
    · split
      · rename_i h
        subst h
        simp
      · rw [List.mem_cons, insS_mem x ys k, List.mem_cons]
        constructor
        · rintro (h | h | h)
          · exact .inr (.inl h)
          · exact .inl h
          · exact .inr (.inr h)
        · rintro (h | h | h)
          · exact .inr (.inl h)
          · exact .inl h
          · exact .inr (.inr h)
theorem insS_sorted (x : Int) : ∀ (l : List Int), l.Pairwise (· < ·) → (insS x l).Pairwise (· < ·)
  | [], _ => by simp [insS]
  | y :: ys, h => by
    obtain ⟨h1, h2⟩ := List.pairwise_cons.mp h
    unfold insS
    split
    · rename_i hx
      refine List.pairwise_cons.mpr ⟨fun k hk => ?_, h⟩
      rcases List.mem_cons.mp hk with e | hk
      · rw [e]; exact hx
      · have := h1 k hk
        omega
    · split
      · exact h
      · refine List.pairwise_cons.mpr ⟨fun k hk => ?_, insS_sorted x ys h2⟩
        rcases (insS_mem x ys k).mp hk with e | hk
        · omega
        · exact h1 k hk
theorem setSort_mem (ns : List Int) (k : Int) : k ∈ setSort ns ↔ k ∈ ns := by
  induction ns with
  | nil => simp [setSort]
  | cons n ns ih =>
    show k ∈ insS n (setSort ns) ↔ _
    rw [insS_mem, ih, List.mem_cons]
theorem setSort_sorted (ns : List Int) : (setSort ns).Pairwise (· < ·) := by
  induction ns with
  | nil => exact List.Pairwise.nil
  | cons n ns ih => exact insS_sorted n _ ih
theorem insS_len (x : Int) : ∀ l : List Int, (insS x l).length ≤ l.length + 1
  | [] => by simp [insS]
  | y :: ys => by
    unfold insS
    split
    · simp
    · split
      · simp
      · have := insS_len x ys
        simp
        omega
theorem setSort_len (ns : List Int) : (setSort ns).length ≤ ns.length := by
  induction ns with
  | nil => simp [setSort]
  | cons n ns ih =>
    have := insS_len n (setSort ns)
    show (insS n (setSort ns)).length ≤ _
    simp
    omega
theorem strict_uniq : ∀ {l m : List Int}, l.Pairwise (· < ·) → m.Pairwise (· < ·) → (∀ k, k ∈ l ↔ k ∈ m) → l = m := fun {l m} h1 h2 h => by
  have n1 : l.Nodup := h1.imp fun {a b} h => by omega
  have n2 : m.Nodup := h2.imp fun {a b} h => by omega
  have p : l.Perm m := (List.perm_ext_iff_of_nodup n1 n2).mpr h
  exact List.Perm.eq_of_pairwise (le := fun a b : Int => a < b) (fun a b _ _ q1 q2 => by omega) h1 h2 p
end
end DL
end
section
set_option maxHeartbeats 4000000
/-! DLi: ranges, slices with a step, methods of lists, stores into lists. -/
namespace DL
open PySem PySem.Spec L2
open PyProof.Rows hiding St
section
variable {X : Cx} {T : Tab} {EE : XX} {e o i tg : Expr} {es : List Expr} {f fo fi : En → M D} {fs : En → M (List D)} {p pos : Pos}

/-! ### range(a, b, c) -/
def okR (i j c : Int) : Bool := decide (c ≠ 0) && decide (c.natAbs < 1073741824) && Builtin.Range.small i j c && decide (0 ≤ Builtin.Range.rangeSize i j c) && decide (Builtin.Range.rangeSize i j c ≤ sizeLine)
def rangeC (i j c : Int) : Option (List D) := if okR i j c = true then some ((List.range (Builtin.Range.rangeSize i j c).toNat).map fun k => D.int (i + (k : Nat) * c)) else none
def rangeA (l : List D) : Option (List D) := match l with
  | [.int j] => rangeC 0 j 1
  | [.int i, .int j] => rangeC i j 1
  | [.int i, .int j, .int c] => rangeC i j c
  | _ => none
theorem okR_iff {i j c : Int} (h : okR i j c = true) : RgC i j c (Builtin.Range.rangeSize i j c).toNat ∧ (Builtin.Range.rangeSize i j c).toNat ≤ sizeLine := by
  unfold okR at h
  simp only [Bool.and_eq_true, decide_eq_true_eq] at h
  obtain ⟨⟨⟨⟨h1, h2⟩, h3⟩, h4⟩, h5⟩ := h
  exact ⟨⟨h1, h2, h3, by omega⟩, by omega⟩
/-- a range object -/
def PRgC (X : Cx) (T : Tab) (EE : XX) (e : Expr) (fs : En → M (List D)) : Prop :=
  ∀ (pins : List (Addr × Obj)) (s : Shared) (σ : St) (H : Hp) (R : List D → Hp → Prop), Inv X pins σ H s →
    dG X.K T EE (fun _ _ (a b : List D) => a = b) (fun ρ => M.bind (fs ρ) fun l => M.opt fun _ => rangeA l) σ H R →
    wpAny (model X.prog X.w) X.A (eval e X.env) (fun x s' => ∃ r i j c t u v H', x = .ref r ∧ IsRange s'.heap r i j c t u v ∧ Inv X pins σ H' s' ∧ okR i j c = true ∧ R ((List.range (Builtin.Range.rangeSize i j c).toNat).map fun k => D.int (i + (k : Nat) * c)) H') X.xe s
theorem prgC {e : Expr} {es : List Expr} (hg : Gl X "range") (hm : X.mg "range" = none) (ha : EvA X T EE (e :: es) fs) (he : starEach (e :: es) X.env = (false, eval e X.env) :: starEach es X.env := by rfl) (hpl : (backTo pos (starEach es X.env)).any (·.1) = false := by rfl) : PRgC X T EE (.Call (.Name "range" p) (e :: es) [] pos) fs := by
  intro pins s σ H R I h
  obtain ⟨_, _, _, _, g1, g2, g3⟩ := bindD (rep := repA X.K T) h
  refine Call_ (ld_blt I hg hm boot_range (PyProof.Rows.callWith_type1 (thn (ha.pa.run pos pins s σ H _ I ⟨_, _, _, _, g1, g2, g3⟩) fun us s1 ⟨vs, H1, I1, r1, l, γ1, hid, S1, ρ, q1, q3, q4, q5⟩ => ?_) he hpl))
  obtain ⟨items, er, w5⟩ := opt_ok q5
  unfold rangeA at er
  split at er
  · unfold rangeC at er
    split at er
    · rename_i j ho
      cases er
      obtain ⟨v, rfl, k1⟩ := rep1 q4
      cases k1
      obtain ⟨u, rfl, ru⟩ := vals1 r1
      obtain ⟨t, rfl⟩ := ru
      exact call_range_1 ⟨_, 0, j, 1, _, _, _, H1, rfl, IsRange.new _ _ _ _ _ _ _, I1.kept fun b u e => Heap.get?_push_of_some _ e, ho, w5 γ1 H1 _ q1 (Ext.refl _ _ _) rfl⟩
    · cases er
  · unfold rangeC at er
    split at er
    · rename_i i j ho
      cases er
      obtain ⟨v, u, rfl, k1, k2⟩ := rep2 q4
      cases k1
      cases k2
      obtain ⟨u1, u2, rfl, ru1, ru2⟩ := vals2 r1
      obtain ⟨t, rfl⟩ := ru1
      obtain ⟨t', rfl⟩ := ru2
      exact call_range_2 ⟨_, i, j, 1, _, _, _, H1, rfl, IsRange.new _ _ _ _ _ _ _, I1.kept fun b u e => Heap.get?_push_of_some _ e, ho, w5 γ1 H1 _ q1 (Ext.refl _ _ _) rfl⟩
    · cases er
  · unfold rangeC at er
    split at er
    · rename_i i j c ho
      cases er
      cases q4 with
      | cons k1 q4 =>
        obtain ⟨v, u, rfl, k2, k3⟩ := rep2 q4
        cases k1
        cases k2
        cases k3
        cases r1 with
        | cons ru1 r1 =>
          obtain ⟨u1, u2, rfl, ru2, ru3⟩ := vals2 r1
          obtain ⟨t, rfl⟩ := ru1
          obtain ⟨t', rfl⟩ := ru2
          obtain ⟨t'', rfl⟩ := ru3
          obtain ⟨⟨c0, c1, c2, c3⟩, _⟩ := okR_iff ho
          exact call_range_3 c0 ⟨_, i, j, c, _, _, _, H1, rfl, IsRange.new _ _ _ _ _ _ _, I1.kept (t' := s1.toks) fun b u e => Heap.get?_push_of_some _ e, ho, w5 γ1 H1 _ q1 (Ext.refl _ _ _) rfl⟩ (.inl (PyProof.noPylong_small c1))
    · cases er
  · cases er
theorem vals_rgC {K : PySem.W.Frag} {γ : List Addr} {F : Hp} {i c : Int} {n : Nat} {acc : Array Value} (h : ItemsOf (fun (k : Nat) v => ∃ t, v = .int (i + k * c) t) acc n) : ∃ vs : List V, Vals vs acc.toList ∧ RpL K T γ F ((List.range n).map fun k => D.int (i + (k : Nat) * c)) vs ∧ vs.length = n := by
  have e : acc.toList.length = n := by rw [Array.length_toList]; exact h.1
  refine ⟨(List.range n).map fun k => V.int (i + (k : Nat) * c), ?_, ?_, by simp⟩
  · rw [← e]
    refine vals_of_get acc.toList _ fun j u hj => ?_
    obtain ⟨t, rfl⟩ := h.2 j u (by rw [← hj, Array.getElem?_toList])
    exact ⟨t, rfl⟩
  · exact rep_map _ _ _ fun a _ => .int _
/-- list(range(..)) -/
theorem evL_listRange (hc : X.calm = true) (hg : Gl X "list") (hm : X.mg "list" = none) (he : PRgC X T EE e fs) (na : starEach [e] X.env = (false, eval e X.env) :: starEach [] X.env := by rfl) : EvL X T EE (.Call (.Name "list" p) [e] [] pos) (fun ρ => M.bind (fs ρ) fun l => M.opt fun _ => rangeA l) := by
  refine ⟨⟨fun pins s σ H Q I h => ?_⟩⟩
  have h2 : dG X.K T EE (fun _ _ (a b : List D) => a = b) (fun ρ => M.bind (fs ρ) fun l => M.opt fun _ => rangeA l) σ H (fun l H' => ∃ γ1 hid S1, Hold X.K T γ1 hid S1 H' ∧ ∀ vs, (l.length ≤ sizeLine ∧ RpL X.K T γ1 (out γ1 S1 hid H') l vs) → ∀ q, H' q = none → Q (.ref q) (upd H' q (.lst vs))) := by
    obtain ⟨γ, hid, S, ρ, hold, env, h⟩ := h
    refine ⟨γ, hid, S, ρ, hold, env, ?_⟩
    cases eq : (M.bind (fs ρ) fun l => M.opt fun _ => rangeA l) S with
    | ok l S' =>
      have h : resG X.K T EE (repL X.K T) γ hid S H ρ σ ((M.bind (fs ρ) fun l => M.opt fun _ => rangeA l) S) _ := h
      rw [eq] at h
      refine (show resG X.K T EE (fun _ _ (a b : List D) => a = b) γ hid S H ρ σ ((M.bind (fs ρ) fun l => M.opt fun _ => rangeA l) S) _ from ?_)
      rw [eq]
      intro γ' H' b a1 a2 a3
      cases a3
      exact ⟨γ', hid, S', a1, fun vs hv => h γ' H' vs a1 a2 hv⟩
    | err x S' =>
      have h : resG X.K T EE (repL X.K T) γ hid S H ρ σ ((M.bind (fs ρ) fun l => M.opt fun _ => rangeA l) S) _ := h
      rw [eq] at h
      refine (show resG X.K T EE (fun _ _ (a b : List D) => a = b) γ hid S H ρ σ ((M.bind (fs ρ) fun l => M.opt fun _ => rangeA l) S) _ from ?_)
      rw [eq]
      exact h
    | stuck =>
      have h : resG X.K T EE (repL X.K T) γ hid S H ρ σ ((M.bind (fs ρ) fun l => M.opt fun _ => rangeA l) S) _ := h
      rw [eq] at h
      refine (show resG X.K T EE (fun _ _ (a b : List D) => a = b) γ hid S H ρ σ ((M.bind (fs ρ) fun l => M.opt fun _ => rangeA l) S) _ from ?_)
      rw [eq]
      exact h
  refine Call_ (ld_blt I hg hm boot_list (PyProof.Rows.callWith_type1 (args_cons (thn (he pins s σ H _ I h2) fun x s1 ⟨r, i, j, c, t, u, v, H1, ex, hr, I1, ok, γ1, hid, S1, q1, q⟩ => args_nil ?_) na) na))
  subst ex
  obtain ⟨⟨c0, c1, c2, c3⟩, zl⟩ := okR_iff ok
  refine call_list_range (n := (Builtin.Range.rangeSize i j c).toNat) (I1.ok.hd hc) hr c2 c3 (by rw [sizeLine_eq] at zl; exact zl) fun h' tk acc c' hk e' hi => ?_
  obtain ⟨vs, k1, k2, k3⟩ := vals_rgC (K := X.K) (T := T) (γ := γ1) (F := out γ1 S1 hid H1) hi
  refine ⟨.ref s1.heap.objs.size, upd H1 s1.heap.objs.size (.lst vs), I1.laid hk (Nat.le_refl _) (show ObjOk X.prog X.w _ _ _ (.lst vs) from ⟨by rw [k3]; exact zl, acc.toList, c', k1, ?_⟩), rfl, q vs ⟨by simpa using zl, k2⟩ _ (I1.hok.fresh (Nat.le_refl _))⟩
  rw [Array.toArray_toList]
  exact e'
def range3 (l : List D) : Option (List D) := match l with
  | [.int i, .int j, .int c] => rangeC i j c
  | _ => none
theorem ei_range3 {a b c : Expr} (hg : Gl X "range") (hm : X.mg "range" = none) (ha : EvA X T EE [a, b, c] fs)
    (hs : starEach [a, b, c] X.env = (false, eval a X.env) :: starEach [b, c] X.env := by rfl) (hpl : (backTo pos (starEach [b, c] X.env)).any (·.1) = false := by rfl) :
    EvI X T EE tg (.Call (.Name "range" p) [a, b, c] [] pos) (fun ρ => M.bind (fs ρ) fun l => M.opt fun _ => range3 l) := by
  refine ⟨(pi_range3 hg hm ha.pa hs hpl).dimp fun σ H R h => ?_⟩
  refine (show dG X.K T EE (repA X.K T) fs σ H _ from ?_)
  obtain ⟨_, _, _, _, h1, h2, h3⟩ := bindD (rep := repA X.K T) h
  refine ⟨_, _, _, _, h1, h2, h3.imp fun vs H1 ⟨l, γ1, hid, S1, ρ, q1, q3, q4, q5⟩ => ?_⟩
  obtain ⟨d, e, w5⟩ := opt_ok q5
  unfold range3 at e
  split at e
  · unfold rangeC at e
    split at e
    · rename_i ho
      cases e
      cases q4 with
      | cons k1 q4 =>
        obtain ⟨v, u, rfl, k2, k3⟩ := rep2 q4
        cases k1
        cases k2
        cases k3
        obtain ⟨r1, zl⟩ := okR_iff ho
        exact ⟨_, _, _, _, rfl, r1, w5 γ1 H1 _ q1 (Ext.refl _ _ _) (repI_rangeC _ _ _ zl)⟩
    · cases e
  · cases e

/-! ### xs[::k], k 1 or -1 -/
def sliceStepD (d k : D) (S : Cells) : Option (List D) := match k, seqL S d with
  | .int 1, some l => some l
  | .int (-1), some l => some l.reverse
  | _, _ => none
theorem evL_step {k : Expr} {fk : En → M D} {p3 : Pos} (he : EvE X T EE e f) (hk : EvE X T EE k fk) (hsub : ∀ o i, subscripted (.Slice none none (some k) p3) false o i = operate [o, i] (getItem o i) := by intro _ _; with_unfolding_all rfl) :
    EvL X T EE (.Subscript e (.Slice none none (some k) p3) pos) (fun ρ => M.bind (f ρ) fun d => M.bind (fk ρ) fun y => M.opt (sliceStepD d y)) := by
  refine ⟨⟨fun pins s σ H Q I h => ?_⟩⟩
  obtain ⟨γ, hid, S, ρ, hold, env, h⟩ := h
  have g := bindR (rep := repE X.K T) hold env h
  refine Subscript_ (thn (he.pe.run pins s σ H _ I g) fun v s1 ⟨x, H1, I1, r1, d1, γ1, S1, q1, q2, q3, q4, q5⟩ => ?_)
  have hst : PO X (some k) (tPart (dE X.K T EE fk)) := po_some hk.pe
  refine wpAny_Slice (thn (po_none.run pins s1 σ H1 (fun o H2 => o = none ∧ H2 = H1) I1 ⟨rfl, rfl⟩) fun vl s2 ⟨l, H2, I2, pl, el, e2⟩ => ?_)
  subst el e2
  refine thn (po_none.run pins s2 σ H2 (fun o H3 => o = none ∧ H3 = H2) I2 ⟨rfl, rfl⟩) fun vu s3 ⟨u, H3, I3, pu, eu, e3⟩ => ?_
  subst eu e3
  have g2 := bindR (rep := repE X.K T) q1 q3 q5
  have g3 : tPart (dE X.K T EE fk) σ H3 (fun o H4 => ∃ k l γ2 S2 a vs, o = some (k : Int) ∧ Hold X.K T γ2 hid S2 H4 ∧ x = .ref a ∧ SqL X.K H4 a vs ∧ l.length ≤ sizeLine ∧ RpL X.K T γ2 (out γ2 S2 hid H4) l vs ∧
      ((k = 1 ∧ okL X.K T γ2 hid S2 H4 l S2 Q) ∨ (k = -1 ∧ okL X.K T γ2 hid S2 H4 l.reverse S2 Q))) := by
    refine (show dG X.K T EE (repE X.K T) fk σ H3 _ from ?_)
    obtain ⟨γ', hid', S', ρ', h1, h2, h3⟩ := g2
    refine ⟨γ', hid', S', ρ', h1, h2, h3.imp fun y H4 ⟨d2, γ2, S2, w1, w2, w3, w4, w5⟩ => ?_⟩
    obtain ⟨l, er, w6⟩ := opt_ok w5
    have w7 : okL X.K T γ2 hid S2 H4 l S2 Q := fun γ' H' vs a1 a2 z a3 => w6 γ' H' vs a1 a2 ⟨z, a3⟩
    have q4' := w2.rp q4
    unfold sliceStepD at er
    split at er
    · rename_i l0 el
      cases er
      cases w4
      obtain ⟨a, vs, rfl, s1, z, g⟩ := seqL_ok w1 q4' el
      exact ⟨1, rfl, 1, l, γ2, S2, a, vs, rfl, w1, rfl, s1, z, g, .inl ⟨rfl, w7⟩⟩
    · rename_i l0 el
      cases er
      cases w4
      obtain ⟨a, vs, rfl, s1, z, g⟩ := seqL_ok w1 q4' el
      exact ⟨-1, rfl, -1, _, γ2, S2, a, vs, rfl, w1, rfl, s1, z, g, .inr ⟨rfl, w7⟩⟩
    · cases er
  refine thn (hst.run pins s3 σ H3 _ I3 g3) fun vs s4 ⟨o, H4, I4, ps, kk, l, γ2, S2, a, ws, eo, w1, ex, s1, z, g, fin⟩ => ?_
  subst eo ex
  cases r1
  have I5 : Inv X pins σ H4 { s4 with heap := s4.heap.push { cls := .type "slice", data := .fields #[vl, vu, vs] } } := I4.kept (t' := s4.toks) fun b ob q => Heap.get?_push_of_some _ q
  obtain ⟨its, r, ht, hz⟩ := I5.list s1
  have hlen := r.length
  show wpAny (model X.prog X.w) X.A (subscriptTail e (.Slice none none (some k) p3) (.ref a) (.ref s4.heap.objs.size)) (EP X pins σ Q) X.xe { s4 with heap := s4.heap.push { cls := .type "slice", data := .fields #[vl, vu, vs] } }
  refine tail_any (ops := [.ref a, .ref s4.heap.objs.size]) ht.isList.typeIs (PySem.slot_list_getitem.lookup) ?_ (hsub _ _)
  rcases fin with ⟨rfl, fin⟩ | ⟨rfl, fin⟩
  · refine wpAny_getItem_list_slice ht.isList (Heap.IsSliceOf.new _ vl vu vs) pl pu ps (by decide) ?_ (by rw [List.size_toArray]; omega)
    have pick1 : slicePick its.toArray none none (some 1) = its.toArray := by
      show slicePick its.toArray none none none = its.toArray
      rw [slicePick_cut]
      simp [HT.sIx_none]
    rw [pick1]
    refine ⟨.ref _, _, I5.laid (t' := s4.toks) (o := .lst ws) (fun b ob q => Heap.get?_push_of_some _ q) (Nat.le_refl _) ?_, rfl, fin.lst w1 z g _ (I5.hok.fresh (Nat.le_refl _))⟩
    exact ⟨hz, _, 0, r, Heap.get?_push_size _ rfl⟩
  · refine wpAny_getItem_list_slice ht.isList (Heap.IsSliceOf.new _ vl vu vs) pl pu ps (by decide) ?_ (by rw [List.size_toArray]; omega)
    rw [PySem.W.krv_pick]
    refine ⟨.ref _, _, I5.laid (t' := s4.toks) (o := .lst ws.reverse) (fun b ob q => Heap.get?_push_of_some _ q) (Nat.le_refl _) ?_, rfl, fin.lst w1 (by rw [List.length_reverse]; exact z) g.reverse _ (I5.hok.fresh (Nat.le_refl _))⟩
    exact ⟨by rw [List.length_reverse]; exact hz, _, 0, r.reverse, Heap.get?_push_size _ rfl⟩

/-! ### methods -/
def rMt (K : PySem.W.Frag) (T : Tab) (op : D → List D → Cells → Option (D × Cells)) : V → List V → Hp → VK → Prop := fun x vs H Q => ∃ γ hid S d ds d' S', Hold K T γ hid S H ∧ Rp K T γ (out γ S hid H) d x ∧ RpL K T γ (out γ S hid H) ds vs ∧ op d ds S = some (d', S') ∧ okV K T γ hid S H d' S' Q
/-- the receiver is of that class -/
def isTy (tn : String) (d : D) (S : Cells) : Option Unit := match d with
  | .str _ => if tn = "str" then some () else none
  | .int _ => if tn = "int" then some () else none
  | d => if tn = "list" ∧ (seqL S d).isSome = true then some () else none
theorem isTy_ok {K : PySem.W.Frag} {γ hid : List Addr} {S : Cells} {H : Hp} {tn : String} (h : Hold K T γ hid S H) {d : D} {v : V} (r : Rp K T γ (out γ S hid H) d v) (e : isTy tn d S = some ()) : tyV K tn v H := by
  unfold isTy at e
  split at e
  · cases r
    split at e
    · assumption
    · cases e
  · cases r
    split at e
    · assumption
    · cases e
  · split at e
    · rename_i hz
      cases q : seqL S d with
      | none => rw [q] at hz; cases hz.2
      | some l =>
        obtain ⟨a, vs, rfl, s1, _, _⟩ := seqL_ok h r q
        exact .inl ⟨hz.1, vs, s1⟩
    · cases e
theorem chg_ok {K : PySem.W.Frag} {α β : Type} {rep : List Addr → Hp → α → β → Prop} {γ hid : List Addr} {S : Cells} {H : Hp} {ρ : En} {σ : St} {Q : β → Hp → Prop} {f : Cells → Option (α × Cells)} (h : resG K T EE rep γ hid S H ρ σ (M.chg f S) Q) : ∃ a S', f S = some (a, S') ∧ resG K T EE rep γ hid S H ρ σ (.ok a S') Q := by
  unfold M.chg at h
  split at h
  · rename_i a S' e
    exact ⟨a, S', e, h⟩
  · exact h.elim
variable {name : Str} {apos cpos : Pos} {tn id : String} {op : D → List D → Cells → Option (D × Cells)}
theorem ev_meth (pa : PlainAttrs tn) (slot : Slot tn name id) (hty : typeOf (.builtin id) = pure (.type "method_descriptor")) (hm : MtR X id (rMt X.K T op)) (ho : EvE X T EE o fo) (ha : EvA X T EE (e :: es) fs)
    (hbase : attributeBase o name X.env (eval o X.env) = eval o X.env := by rfl)
    (hfew : ((backTo cpos (starEach (e :: es) X.env)).all (fun x => !x.1) && (backToKw cpos (keywordEach [] X.env)).all (fun x => x.1.isSome)
      && decide ((e :: es).length + ([] : List Keyword).length + (if ([] : List Keyword).isEmpty then 0 else 1) < 30)) = true := by rfl)
    (hline : (apos.endLine == cpos.line) = true := by rfl) (hs : starEach (e :: es) X.env = (false, eval e X.env) :: starEach es X.env := by rfl) (hplain : (backTo cpos (starEach es X.env)).any (·.1) = false := by rfl) :
    EvE X T EE (.Call (.Attribute o name apos) (e :: es) [] cpos) (fun ρ => M.bind (fo ρ) fun d => M.bind (M.opt (isTy tn d)) fun _ => M.bind (fs ρ) fun ds => M.chg (op d ds)) := by
  refine ⟨(pe_bm pa slot hty hm ho.pe ha.pa hbase hfew hline hs hplain).dimp fun σ H Q h => ?_⟩
  refine (show dG X.K T EE (repE X.K T) fo σ H _ from ?_)
  obtain ⟨γ, hid, S, ρ, hold, env, h⟩ := h
  obtain ⟨_, _, _, _, h1, h2, h3⟩ := bindR (rep := repE X.K T) hold env h
  refine ⟨_, _, _, _, h1, h2, h3.imp fun x H1 ⟨d1, γ1, S1, q1, q2, q3, q4, q5⟩ => ?_⟩
  cases et : isTy tn d1 S1 with
  | none =>
    rw [bind_of_stuck (opt_none et)] at q5
    exact q5.elim
  | some u =>
    rw [bind_of_ok (opt_some et)] at q5
    refine ⟨isTy_ok q1 q4 et, ?_⟩
    obtain ⟨_, _, _, _, h1, h2, h3⟩ := bindR (rep := repA X.K T) q1 q3 q5
    refine ⟨_, _, _, _, h1, h2, h3.imp fun vs H2 ⟨ds, γ2, S2, w1, w2, w3, w4, w5⟩ => ?_⟩
    obtain ⟨d', S', e, w5⟩ := chg_ok w5
    exact ⟨γ2, hid, S2, d1, ds, d', S', w1, w2.rp q4, w4, e, w5⟩
theorem ev_meth0 (pa : PlainAttrs tn) (slot : Slot tn name id) (hty : typeOf (.builtin id) = pure (.type "method_descriptor")) (hm : MtR X id (rMt X.K T op)) (ho : EvE X T EE o fo)
    (hbase : attributeBase o name X.env (eval o X.env) = eval o X.env := by rfl) (hline : (apos.endLine == cpos.line) = true := by rfl) :
    EvE X T EE (.Call (.Attribute o name apos) [] [] cpos) (fun ρ => M.bind (fo ρ) fun d => M.bind (M.opt (isTy tn d)) fun _ => M.chg (op d [])) := by
  refine ⟨(pe_bm0 pa slot hty hm ho.pe hbase hline).dimp fun σ H Q h => ?_⟩
  refine (show dG X.K T EE (repE X.K T) fo σ H _ from ?_)
  obtain ⟨_, _, _, _, h1, h2, h3⟩ := bindD (rep := repE X.K T) h
  refine ⟨_, _, _, _, h1, h2, h3.imp fun x H1 ⟨d1, γ1, hid, S1, ρ, q1, q3, q4, q5⟩ => ?_⟩
  cases et : isTy tn d1 S1 with
  | none =>
    rw [bind_of_stuck (opt_none et)] at q5
    exact q5.elim
  | some u =>
    rw [bind_of_ok (opt_some et)] at q5
    refine ⟨isTy_ok q1 q4 et, ?_⟩
    obtain ⟨d', S', e, w5⟩ := chg_ok q5
    exact ⟨γ1, hid, S1, d1, [], d', S', q1, q4, .nil, e, w5⟩
/-- a live list -/
def liveL (d : D) (S : Cells) : Option (Nat × List D) := match d with
  | .ref n => match S[n]? with
    | some ⟨true, .lst l⟩ => some (n, l)
    | _ => none
  | _ => none
theorem liveL_ok {K : PySem.W.Frag} {γ hid : List Addr} {S : Cells} {H : Hp} (h : Hold K T γ hid S H) {d : D} {v : V} {n : Nat} {l : List D} (r : Rp K T γ (out γ S hid H) d v) (e : liveL d S = some (n, l)) :
    ∃ a vs, v = .ref a ∧ H a = some (.lst vs) ∧ l.length ≤ sizeLine ∧ RpL K T [] (out γ S hid H) l vs ∧
      ∀ (l' : List D) (vs' : List V) (d' : D) (v' : V) (Q : VK), l'.length ≤ sizeLine → RpL K T [] (out γ S hid H) l' vs' → Rp K T [] (out γ S hid H) d' v' → okV K T γ hid S H d' (S.set n ⟨true, .lst l'⟩) Q → Q v' (upd H a (.lst vs')) := by
  unfold liveL at e
  split at e
  · split at e
    · rename_i q
      cases e
      cases r with
      | ref a =>
        obtain ⟨vs, h1, z, h2⟩ := h.list a q
        refine ⟨_, vs, rfl, h1, z, h2, fun l' vs' d' v' Q z' r' rd fin => ?_⟩
        obtain ⟨a1, a2⟩ := h.write a q (.lst z' r')
        exact fin γ _ v' a1 a2 (Rp.nil_any (a2.sameH hid) rd)
    · cases e
  · cases e
def mAppend (d : D) (ds : List D) (S : Cells) : Option (D × Cells) := match ds, liveL d S with
  | [x], some (n, l) => if x.flat = true ∧ l.length < sizeLine then some (.non, S.set n ⟨true, .lst (l ++ [x])⟩) else none
  | _, _ => none
theorem mt_mAppend : MtR X "list.append" (rMt X.K T mAppend) := by
  intro pins s σ H x vs v us Q I rx rv h
  refine mt_append pins s σ H x vs v us Q I rx rv ?_
  obtain ⟨γ, hid, S, d, ds, d', S', hold, r1, r2, e, q⟩ := h
  unfold mAppend at e
  split at e
  · rename_i y n l el
    split at e
    · rename_i hz
      cases e
      obtain ⟨w, rfl, ry⟩ := rep1 r2
      obtain ⟨a, ws, rfl, h1, z, g, fin⟩ := liveL_ok hold r1 el
      refine ⟨a, ws, w, rfl, rfl, h1, by rw [← g.length]; exact hz.2, fin _ _ .non .non Q ?_ (g.append (.one (Rp.toflat _ _ hz.1 ry))) .non q⟩
      rw [List.length_append]
      have := hz.2
      simp only [List.length_singleton]
      omega
    · cases e
  · cases e
def mInsert (d : D) (ds : List D) (S : Cells) : Option (D × Cells) := match ds, liveL d S with
  | [.int i, x], some (n, l) => if x.flat = true ∧ l.length < sizeLine ∧ 0 ≤ i ∧ i < 2 ^ 63 then some (.non, S.set n ⟨true, .lst (l.take i.toNat ++ [x] ++ l.drop i.toNat)⟩) else none
  | _, _ => none
theorem mt_mInsert : MtR X "list.insert" (rMt X.K T mInsert) := by
  intro pins s σ H x vs v us Q I rx rv h
  refine mt_insert pins s σ H x vs v us Q I rx rv ?_
  obtain ⟨γ, hid, S, d, ds, d', S', hold, r1, r2, e, q⟩ := h
  unfold mInsert at e
  split at e
  · rename_i i y n l el
    split at e
    · rename_i hz
      cases e
      obtain ⟨w0, w, rfl, r0, ry⟩ := rep2 r2
      cases r0
      obtain ⟨a, ws, rfl, h1, z, g, fin⟩ := liveL_ok hold r1 el
      refine ⟨a, ws, i, w, rfl, rfl, h1, by rw [← g.length]; exact hz.2.1, hz.2.2.1, hz.2.2.2, fin _ _ .non .non Q ?_ (((g.take i.toNat).append (.one (Rp.toflat _ _ hz.1 ry))).append (g.drop i.toNat)) .non q⟩
      rw [List.length_append, List.length_append, List.length_take, List.length_drop]
      have := hz.2.1
      simp only [List.length_singleton]
      omega
    · cases e
  · cases e
def mPop (d : D) (ds : List D) (S : Cells) : Option (D × Cells) := match ds, liveL d S with
  | [], some (n, l) => match l[l.length - 1]? with
    | some y => some (y, S.set n ⟨true, .lst l.dropLast⟩)
    | none => none
  | _, _ => none
def mPopAt (d : D) (ds : List D) (S : Cells) : Option (D × Cells) := match ds, liveL d S with
  | [.int i], some (n, l) => if -(2 ^ 63) ≤ i ∧ i < 2 ^ 63 then match ixN l.length i with
    | some k => match l[k]? with
      | some y => some (y, S.set n ⟨true, .lst (l.eraseIdx k)⟩)
      | none => none
    | none => none else none
  | _, _ => none
theorem RpL.dropLast {K : PySem.W.Frag} {γ : List Addr} {F : Hp} {l : List D} {vs : List V} (r : RpL K T γ F l vs) : RpL K T γ F l.dropLast vs.dropLast := by
  rw [List.dropLast_eq_take, List.dropLast_eq_take, r.length]
  exact r.take _
theorem mt_mPop : MtR X "list.pop" (rMt X.K T mPop) := by
  intro pins s σ H x vs v us Q I rx rv h
  refine mt_pop pins s σ H x vs v us Q I rx rv ?_
  obtain ⟨γ, hid, S, d, ds, d', S', hold, r1, r2, e, q⟩ := h
  unfold mPop at e
  split at e
  · rename_i n l el
    split at e
    · rename_i y ey
      cases e
      cases r2
      obtain ⟨a, ws, rfl, h1, z, g, fin⟩ := liveL_ok hold r1 el
      obtain ⟨w, ew, ry⟩ := g.get ey
      rw [g.length] at ew
      exact ⟨a, ws, w, rfl, rfl, h1, ew, fin _ _ _ _ Q (by rw [List.length_dropLast]; omega) g.dropLast ry q⟩
    · cases e
  · cases e
theorem mt_mPopAt : MtR X "list.pop" (rMt X.K T mPopAt) := by
  intro pins s σ H x vs v us Q I rx rv h
  refine mt_popAt pins s σ H x vs v us Q I rx rv ?_
  obtain ⟨γ, hid, S, d, ds, d', S', hold, r1, r2, e, q⟩ := h
  unfold mPopAt at e
  split at e
  · rename_i i n l el
    split at e
    · rename_i hi
      split at e
      · rename_i k ek
        split at e
        · rename_i y ey
          cases e
          obtain ⟨w0, rfl, r0⟩ := rep1 r2
          cases r0
          obtain ⟨a, ws, rfl, h1, z, g, fin⟩ := liveL_ok hold r1 el
          obtain ⟨w, ew, ry⟩ := g.get ey
          rw [g.length] at ek
          exact ⟨a, ws, i, k, w, rfl, rfl, h1, hi.1, hi.2, (ixN_seq ek).1, ew, fin _ _ _ _ Q (Nat.le_trans (len_erase _ _) z) (g.eraseIdx k) ry q⟩
        · cases e
      · cases e
    · cases e
  · cases e

/-! ### xs[i] = e -/
def setAtD (d i y : D) (S : Cells) : Option Cells := match i, liveL d S with
  | .int k, some (n, l) => match ixN l.length k with
    | some j => if y.flat = true then some (S.set n ⟨true, .lst (l.set j y)⟩) else none
    | none => none
  | _, _ => none
theorem es_store (he : EvE X T EE e f) (ho : EvE X T EE o fo) (hi : EvE X T EE i fi) (hs : swapsWithSole [.Subscript o i p] e pos.line X.env = pure false := by rfl) (hw : swappedStores [.Subscript o i p] e X.env = pure none := by rfl)
    (h1 : (assignEach [.Subscript o i p] X.env).map (·.2) = [assign (.Subscript o i p) X.env] := by rfl)
    (ha : ∀ v, assign (.Subscript o i p) X.env v = (do
      let ov ← holding [v] (eval o X.env)
      let iv ← holding [v, ov] (eval i X.env)
      standAt p
      holding [v, ov, iv] (setItem ov iv v)
      release [v, ov, iv] []) := by intro _; rfl) : EvS X T EE (.Assign [.Subscript o i p] e pos) (bindS f fun y => bindS fo fun d => bindS fi fun k ρ S => match setAtD d k y S with
      | some S' => .nx ρ S'
      | none => .stuck) := by
  refine ⟨(ps_asg he.pe (pg_sub ho.pe hi.pe set_list ha) hs hw h1).dimp fun Dn σ H h => ?_⟩
  refine (show dG X.K T EE (repE X.K T) f σ H _ from ?_)
  obtain ⟨γ, hid, S, ρ, hold, env, h⟩ := h
  obtain ⟨_, _, _, _, h1, h2, h3⟩ := bindSR (rep := repE X.K T) hold env h
  refine ⟨_, _, _, _, h1, h2, h3.imp fun vy H1 ⟨y, γ1, S1, q1, q2, q3, q4, q5⟩ => ?_⟩
  refine (show dG X.K T EE (repE X.K T) fo σ H1 _ from ?_)
  obtain ⟨_, _, _, _, h1, h2, h3⟩ := bindSR (rep := repE X.K T) q1 q3 q5
  refine ⟨_, _, _, _, h1, h2, h3.imp fun vo H2 ⟨d, γ2, S2, w1, w2, w3, w4, w5⟩ => ?_⟩
  refine (show dG X.K T EE (repE X.K T) fi σ H2 _ from ?_)
  obtain ⟨_, _, _, _, h1, h2, h3⟩ := bindSR (rep := repE X.K T) w1 w3 w5
  refine ⟨_, _, _, _, h1, h2, h3.imp fun vi H3 ⟨k, γ3, S3, u1, u2, u3, u4, u5⟩ => ?_⟩
  cases es : setAtD d k y S3 with
  | none =>
    simp only [es] at u5
    exact u5.elim
  | some S' =>
    simp only [es] at u5
    unfold setAtD at es
    split at es
    · rename_i kk n l el
      split at es
      · rename_i j ej
        split at es
        · rename_i hf
          cases es
          cases u4
          obtain ⟨a, ws, rfl, g1, z, g, fin⟩ := liveL_ok u1 (u2.rp w4) el
          rw [g.length] at ej
          have ry := Rp.toflat _ _ hf (u2.rp (w2.rp q4))
          refine ⟨a, ws, kk, j, rfl, rfl, g1, ej, ?_⟩
          exact fin (l.set j y) (ws.set j vy) .non .non (fun _ H' => Dn.nx σ H') (by rw [List.length_set]; exact z) (g.set ry j) .non fun γ' H' v b1 b2 b3 => u5 γ' H' σ b1 b2 (u3.mono b2.pre (b2.sameH hid))
        · cases es
      · cases es
    · cases es
end
end DL
end
section
set_option maxHeartbeats 2000000
/-! DLz: the law's own end, for defs whose promise wants that no repr is under way. -/
namespace DL
open PySem PySem.Spec L2
open PyProof.Rows hiding St

/-- the law's promise, at the heap behind the top -/
theorem law_callG {P : Program} {w : World} {K : PySem.W.Frag} {mg mb : Str → Option Value} {k : Nat} {fa a : Addr} {fd : FuncData} {x : Str} {sp : Sp} {t : Shared} {vs : List Value} {ns : List Int}
    (KX : K.In t.heap) (hns : t.heap.Ns mainGlobals mg) (hb : t.heap.Ns builtinsNs mb) (hbb : ∀ x : Str, x ≠ "__name__" → mb x = bootBuiltins x) (hlim : t.heap.NoLimit) (hg : t.gens = #[])
    (ha : t.heap.get? a = some { cls := .type "list", data := .seq vs.toArray }) (hi : IntsAre vs ns) (hl : ns.length ≤ sizeLine) (hr : Room k callerA)
    (F : ∀ base : Heap, K.In base → base.Ns mainGlobals mg → FnG P w K mg base k fa fd [x] sp) (hbind : ∀ (s : Shared) (u : Value), BindsTo s fd ⟨[u], []⟩ [(x, u)])
    (hsp : ∀ H : Hp, Only H → SqL K H a (ns.map V.int) → sp [.ref a] H (fun v _ => v = .bl true) fun _ _ _ => False) :
    codeAny (model P w) callerA (.call (.ref fa) ⟨[.ref a], []⟩) (fun r t' => r = .ok (.ret (.bool true)) ∧ OldK t.heap t'.heap ∧ t'.os = t.os ∧ AllBare t'.gens) t := by
  have rv := vals_ints hi
  have len := hi.length
  have core : ∀ H : Hp, Only H → SqL K H a (ns.map V.int) → HOk P w H t.heap → (∀ b, H b ≠ none → b = a) → (H a ≠ none → K.lookup a = none) →
      codeAny (model P w) callerA (.call (.ref fa) ⟨[.ref a], []⟩) (fun r t' => r = .ok (.ret (.bool true)) ∧ OldK t.heap t'.heap ∧ t'.os = t.os ∧ AllBare t'.gens) t := by
    intro H only sq hok one kn
    have isA : ∀ {b : Addr}, H b ≠ none → b = a := fun q => one _ q
    have nod : ∀ {b : Addr} {o : Obj} {es : Array DictEntry} {ep : Nat}, t.heap.get? b = some o → o.data = .dict es ep → H b = none := fun {b o es ep} e d => by
      cases q : H b with
      | none => rfl
      | some u =>
        have z := isA (b := b) (by rw [q]; simp)
        subst z
        rw [ha] at e
        cases e
        have d2 : Data.seq vs.toArray _ = Data.dict es ep := d
        cases d2
    have nsK : ∀ {b : Addr} {m : Str → Option Value}, t.heap.Ns b m → (hidT t.heap H).Ns b m := fun {b m} ⟨o, es, ep, e, d, r⟩ => ⟨o, es, ep, hidT_get e (nod e d), d, r⟩
    have kin : K.In (hidT t.heap H) := fun b o e => hidT_get (KX b o e) (by
      cases q : H b with
      | none => rfl
      | some u =>
        have z := isA (b := b) (by rw [q]; simp)
        subst z
        rw [kn (by rw [q]; simp)] at e
        cases e)
    have hm : Mod K mg (hidT t.heap H) := ⟨kin, nsK hns, ⟨mb, nsK hb, hbb⟩, let ⟨m, p, q⟩ := hlim; ⟨m, nsK p, q⟩⟩
    have e0 : Env0 P w K mg (hidT t.heap H) callerA [] t H := ⟨rfl, hm, fun b o e => of_hidT e, Nat.le_of_eq (hidT_size _ _), trivial, fun b hb => absurd (show b ∈ ([] : List Addr) from hb) (by simp), hok, .of_eq hg⟩
    refine codeAny_mono ((F _ kin (nsK hns)).run callerA [] t H ⟨[.ref a], []⟩ [.ref a] [.ref a] _ _ hr rfl e0 (hbind t (.ref a)) (.cons rfl .nil) (hsp H only sq)) fun r t' h => ?_
    cases r with
    | error e => exact False.elim h
    | ok fl =>
      cases fl with
      | next => exact False.elim h
      | brk => exact False.elim h
      | cont => exact False.elim h
      | ret u =>
        obtain ⟨v, H', os, bare, un, hok', r', q⟩ := h
        have q2 : v = .bl true := q
        subst q2
        obtain rfl : u = Value.bool true := r'
        refine ⟨rfl, OldK.of_keep fun b o e => ?_, os, bare⟩
        cases q : H b with
        | none => exact un.keep b o e q (by intro z; exact absurd (show b ∈ ([] : List Addr) from z) (by simp)) (by simp)
        | some u =>
          rcases only b with z | ⟨ob, xs, z⟩
          · rw [q] at z
            cases z
          · obtain ⟨e1, _⟩ := hok b _ z
            obtain ⟨e2, _⟩ := hok' b _ (un.frzs b ob _ z)
            rw [e] at e1
            cases e1
            exact e2
  cases hk : K.lookup a with
  | some o =>
    have e := KX a o hk
    rw [ha] at e
    cases e
    exact core (fun _ => none) (fun _ => .inl rfl) (.inr ⟨_, vs.toArray, _, hk, rfl, rfl, rfl, by rw [List.size_toArray, len]; exact hl, by simpa using rv⟩) (fun b u z => by have z2 : (none : Option HO) = some u := z; cases z2) (fun b z => absurd rfl z) fun z => absurd rfl z
  | none =>
    refine core (fun b => if b = a then some (.frz { cls := .type "list", data := .seq vs.toArray } (.lst (ns.map V.int))) else none) (fun b => ?_) (.inl (.inr ⟨{ cls := .type "list", data := .seq vs.toArray }, if_pos rfl⟩)) (fun b u z => ?_) (fun b z => ?_) fun _ => hk
    · by_cases hb : b = a
      · exact .inr ⟨_, _, if_pos hb⟩
      · exact .inl (if_neg hb)
    · by_cases hb : b = a
      · have z2 := (if_pos hb).symm.trans z
        cases z2
        subst hb
        exact ⟨ha, by rw [List.length_map]; exact hl, vs, _, rv, ha⟩
      · have z2 := (if_neg hb).symm.trans z
        cases z2
    · by_cases hb : b = a
      · exact hb
      · exact absurd (if_neg hb) z
/-- what k_head leaves, from the law's reading -/
theorem walk_D {l : PySem.W.OpenLaw} {n k : Nat} {q : Program} {loose : List Str} {XP : (Str → Option Value) → Heap → Prop} {YP : World → Heap → Prop} {d : DefRec} {g : List D → M D} {x : Str}
    (hn : l.most = some n) (hn2 : n ≤ sizeLine) (hdf : d.params.defaults = []) (hr : Room k callerA)
    (F : ∀ (w : World) (mg : Str → Option Value) (fa : Addr) (h : Heap), YP w h → h.Ns mainGlobals mg → mg d.name = some (.ref fa) →
      ∃ (K : PySem.W.Frag) (fd : FuncData) (T : Tab), K.In h ∧ (∀ (s : Shared) (u : Value), BindsTo s fd ⟨[u], []⟩ [(x, u)]) ∧
        ∀ base : Heap, K.In base → base.Ns mainGlobals mg → FnG l.prog w K mg base k fa fd [x] (spD K T 1 g))
    (law : ∀ ns : List Int, ns.length ≤ n → ∃ S, g [.lst (ns.map .int)] [] = .ok (.bl true) S) :
    PySem.W.WalkO q loose XP YP l.row.toRowW d [] (fun f vs => PySem.call f vs) := by
  refine Att.attach_call hn hdf fun w t0 t mg mb fa o pm cd doc a vs ns G Y ho hd hcd hmg hobj hints hlen hg => ?_
  obtain ⟨K, fd, T, KX, hb, hF⟩ := F w mg fa _ Y G.T.g hmg
  refine law_callG KX G.T.g G.T.b G.T.builtins G.T.nolimit hg hobj hints (Nat.le_trans hlen hn2) hr hF hb fun H only sq => ?_
  obtain ⟨S, e⟩ := law ns hlen
  refine ⟨[], [], [], [.lst (ns.map .int)], ⟨rfl, List.nodup_nil, fun n a c e => by simp at e, fun a h => by simp at h, fun a h => by simp at h⟩, .cons (.lst ?_ (by rw [List.length_map]; exact Nat.le_trans hlen hn2) (rep_ints ns)) .nil, rfl, _, S, e, fun γ' H' v _ _ r => ?_⟩
  · have e : out [] [] [] H = H := by
      funext b
      unfold out liveAt
      simp
    rw [e]
    exact sq
  · cases r
    rfl
end DL
end
section
set_option maxHeartbeats 8000000
/-! DLh: set(a list of ints) and sorted of it, at any length. -/
namespace DL
open PySem PySem.Spec L2
open PyProof.Rows hiding St
section
variable {P : Program} {w : World} {A : Around} {E : Value → Shared → Prop} {s : Shared}
/-- the empty set's object, as set() lays it -/
abbrev set0 (w : World) : Obj := { cls := .type "set", dict := none, data := .set #[] 0 (.fresh 0 0 (!w.params.followText "set-order")) }
theorem set_of_list {l : Addr} {items : Array Value} (ns : List Int) {Q : Value → Shared → Prop} (hh : A.handled = none) (hl : s.heap.IsList l items) (hit : IntsAre items.toList ns) (hb : ns.length + 1 < scanBound)
    (fin : ∀ (g : Heap) (tk c : Nat), SetR w g s.heap.objs.size (fun j => decide (j ∈ ns)) c → c ≤ ns.length → (∀ b o, s.heap.get? b = some o → g.get? b = some o) → Q (.ref s.heap.objs.size) { s with heap := g, toks := tk }) :
    wpAny (model P w) A (call (.type "set") [.ref l]) Q E s := by
  have isz : items.size = ns.length := by
    rw [← IntsAre.length hit, Array.length_toList]
  obtain ⟨c0, tl0, mro0⟩ := F.called_set.mro
  have made0 := F.called_set.made
  have sub0 := F.called_set.sub
  refine wpAny_call (codeAny_of_tree ?_)
  show wpAny _ _ (callAny (.type "set") _) _ _ _
  refine wpAny_pure ⟨Code.quiet_builtin _ (by decide +kernel), codeAny_builtin F.entry_type_call ?_⟩
  rw [Around.under_plain (weight_type_call_type "set" [.ref l] []) rfl]
  have nt := F.called_set.notType
  have cc := F.called_set.canCreate
  have tc := F.typeCall_set_1 (.ref l)
  repeat (any_goals (first | assumption | wp_step))
  refine codeAny_mono (code_set_led1 (.ref l) (E := E) (Q₁ := fun obj t => obj = .ref s.heap.objs.size ∧ t = { s with heap := s.heap.push (set0 w) }) ⟨rfl, rfl⟩) fun r t hr => ?_
  cases r with
  | error e => exact hr
  | ok flow =>
    cases flow with
    | ret obj =>
      obtain ⟨rfl, rfl⟩ := hr
      have at0 : (s.heap.push (set0 w)).get? s.heap.objs.size = some (set0 w) := Heap.get?_push_size _ rfl
      have ty0 : Shared.TypeIs { s with heap := s.heap.push (set0 w) } (.ref s.heap.objs.size) "set" := ⟨_, at0, rfl⟩
      have li := F.called_set.init.lookup
      have bi := F.called_set.init.bind (.ref s.heap.objs.size)
      repeat (any_goals (first | assumption | wp_step))
      refine codeAny_mono (codeAny_call_builtin (R := wants (fun r s2 => r = .none ∧ ∃ g tk c, s2 = { s with heap := g, toks := tk } ∧ SetR w g s.heap.objs.size (fun j => decide (j ∈ ns)) c ∧ c ≤ ns.length ∧
          (∀ b o, s.heap.get? b = some o → g.get? b = some o)) E) F.called_set.init.plain F.entry_set_init (check_set_init_1 ty0 ?_)) fun r2 s2 hr2 => ?_
      · obtain ⟨⟨kcls, kdict, kdata, kslots⟩, hol, hcl, nl, hdl⟩ := hl
        simp only at hcl hdl
        subst hcl; subst hdl
        have hol1 : (s.heap.push (set0 w)).get? l = some { cls := .type "list", dict := kdict, data := .seq items nl, slots := kslots } := Heap.get?_push_of_some _ hol
        have s1 := F.sub_list_set
        have s2 := F.sub_list_frozenset
        have ne0 : (Value.type "list" == Value.type "dict") = false := by decide
        have il : (s.heap.push (set0 w)).IsList l items := ⟨_, hol1, rfl, nl, rfl⟩
        unfold Builtin.«set.__init__» noKeywords Builtin.Frozenset.updateFrom
        generalize hPI : pyIter = PI
        wp_walk
        subst hPI
        refine wpAny_pyIter_list il ?_
        refine wpAny_bind (wpAny_runValue ?_)
        have lS : l < s.heap.objs.size := Heap.lt_size hol
        have h3 : A.in1.in1.in1.handled = none := by simp [hh]
        have neI : l ≠ (s.heap.push (set0 w)).objs.size := by
          rw [Heap.size_push]
          exact Nat.ne_of_lt (Nat.lt_succ_of_lt lS)
        have nf : s.heap.objs.size ∉ [(s.heap.push (set0 w)).objs.size, l] := by
          rw [Heap.size_push]
          simp only [List.mem_cons, List.mem_singleton, List.not_mem_nil, or_false, not_or]
          exact ⟨Nat.ne_of_lt (Nat.lt_succ_self _), Nat.ne_of_gt lS⟩
        have val : ∀ (i : Nat) (v : Value), items[i]? = some v → ∃ k t, ns[i]? = some k ∧ v = .int k t := fun i v hv => by
          have hi : i < ns.length := by
            rw [← isz]
            exact (Array.getElem?_eq_some_iff.mp hv).1
          obtain ⟨t, e⟩ := PyProof.Rows.IntsAre.int_at hit i v (by rw [Array.getElem?_toList]; exact hv)
          refine ⟨ns[i], t, List.getElem?_eq_getElem hi, ?_⟩
          rw [e, List.getD_eq_getElem?_getD, List.getElem?_eq_getElem hi] <;> rfl
        refine set_update_ints ((Walks.list h3 _ l neI items).toS) s.heap.objs.size
          nf ns isz hb val (items.size - 0) 0 _ (by omega) (Nat.zero_le _)
          ⟨⟨_, Heap.get?_push_size _ rfl, rfl, rfl⟩, (il.push _)⟩ ?a0 ?aR
        case a0 => exact ⟨0, Nat.le_refl 0, setR_new_at (Heap.get?_push_of_some _ at0)⟩
        case aR =>
          intro t c mv hc hS
          obtain ⟨g, g2, d2, k2, o2⟩ := t
          have eg : g2 = s.gens := mv.gens
          have ed : d2 = s.drawn := mv.drawn
          have eo : o2 = s.os := mv.os
          subst eg; subst ed; subst eo
          show wpAny _ _ _ _ _ _
          refine wpAny_pure ?_
          show wpAny _ _ (ret Value.none) _ _ _
          rw [isz] at hc
          refine wpAny_pure ⟨rfl, g, k2, c, rfl, hS, hc, fun b o e => ?_⟩
          have b0 : b < s.heap.objs.size := Heap.lt_size e
          have b2 : b ≠ (s.heap.push (set0 w)).objs.size := by
            rw [Heap.size_push]
            exact Nat.ne_of_lt (Nat.lt_succ_of_lt b0)
          exact mv.heap b o (by simp only [List.mem_cons, List.mem_singleton, List.not_mem_nil, or_false, not_or]; exact ⟨Nat.ne_of_lt b0, b2⟩) (Heap.get?_push_of_some _ (Heap.get?_push_of_some _ e))
      · cases r2 with
        | error e => exact hr2
        | ok flow2 =>
          cases flow2 with
          | ret r =>
            obtain ⟨rfl, g, tk, c, rfl, hS, hc, hk⟩ := hr2
            repeat (any_goals (first | assumption | wp_step))
            exact fin _ _ _ hS hc hk
          | _ => exact hr2.elim
    | _ => exact hr.elim
/-- sorted of a set of ints, however many -/
theorem sorted_setAny {a : Addr} {M : Int → Bool} {n : Nat} {Q : Value → Shared → Prop} (R : SetR w s.heap a M n) (hh : A.handled = none) (hz : n ≤ sizeLine)
    (fin : ∀ t p (out : List Value) (c : Nat) (ns : List Int), (∀ b o, s.heap.get? b = some o → t.heap.get? b = some o) → t.gens = s.gens → t.os = s.os → s.heap.objs.size ≤ p →
      t.heap.get? p = some (seqObj "list" out.toArray c) → IntsAre out ns → ns.Pairwise (· < ·) → (∀ k, k ∈ ns ↔ M k = true) → ns.length = n → Q (.ref p) t) :
    wpAny (model P w) A (call (.builtin "sorted") [.ref a]) Q E s := by
  obtain ⟨o, es, ep, t, ho, hex, hd, good, nd, hm, hb, hf, hn, hr, hl⟩ := R
  refine Calls.call_function_entry kind_sorted plain_sorted entry_sorted (args_sorted1 _) ?_
  unfold Builtin.«sorted»
  refine wpAny_bind (m := checkCount "sorted" 1 1 _) (wpAny_pure ?_)
  refine wpAny_bind (collect_set (A := A.in1) hh ⟨o, ho, hex.1, hd⟩ hf hb hr hl fun s1 vs keep zz gg oo pm => ?_)
  have vl : vs.length = n := by rw [pm.length_eq, List.length_map, Array.length_toList]; exact hn
  have hI : IntsAre vs (vs.map Builtin.Re.reRawOf) := ints_of vs fun v hv => by
    obtain ⟨e, he, q⟩ := List.mem_map.mp (pm.mem_iff.mp hv)
    obtain ⟨k, tk, h1, _⟩ := good e he
    exact ⟨k, tk, by rw [← q]; exact h1⟩
  have pk : (vs.map Builtin.Re.reRawOf).Perm (es.toList.map keyOf) := by
    have q := pm.map Builtin.Re.reRawOf
    rw [List.map_map] at q
    exact q
  refine wpAny_bind (wpAny_newList ?_ (by rw [vl]; exact hz))
  have hoL : (s1.heap.push (seqObj "list" vs.toArray 0)).get? s1.heap.objs.size = some (seqObj "list" vs.toArray 0) := Heap.get?_push_size _ rfl
  refine wpAny_bind (wpAny_holding (wpAny_call_entry slot_list_sort ⟨_, hoL, rfl⟩ entry_list_sort (SrtO.list_sort_ord SrtO.swo_int hoL (by rw [vl]; exact hz) (fun h2 => SrtO.ints_sortable hI h2) fun out a1 a2 => ⟨_, rfl, ?_⟩) (args_list_sort _)))
  obtain ⟨k1, k2, k3⟩ := SrtO.ints_out hI a1 a2
  obtain ⟨c, hc⟩ := PyProof.Rows.sortedHeap_at (vs := vs) (out := out.toArray) hoL
  have pn : (out.map SrtO.iv).Perm (es.toList.map keyOf) := k2.trans pk
  refine wpAny_pure ⟨_, rfl, fin _ s1.heap.objs.size out c (out.map SrtO.iv) (fun b u e => ?_) gg oo zz hc k1 (lt_of_le_nodup _ k3 (pn.nodup_iff.mpr nd)) (fun k => by rw [pn.mem_iff, ← hm k]) ?_⟩
  · have q := keep b u e
    have lt := Heap.lt_size q
    show (sortedHeap (s1.heap.push (seqObj "list" vs.toArray 0)) s1.heap.objs.size vs out.toArray).get? b = some u
    rw [sortedHeap_old (Nat.ne_of_lt lt) (by rw [size_push']; exact Nat.lt_succ_of_lt lt)]
    exact Heap.get?_push_of_some _ q
  · rw [pn.length_eq, List.length_map, Array.length_toList]; exact hn
end
section
variable {X : Cx} {T : Tab} {EE : XX} {e : Expr} {f : En → M D} {p p2 pos pos2 : Pos}
def setSortD (d : D) (S : Cells) : Option (List D) := match (seqL S d).bind ints? with
  | some ns => if ns.length + 1 < scanBound then some ((setSort ns).map .int) else none
  | none => none
/-- sorted(set(xs)), xs ints -/
theorem evL_sortedSet (hc : X.calm = true) (hg : Gl X "sorted") (hm : X.mg "sorted" = none) (hv : bootBuiltins "sorted" = some (.builtin "sorted")) (hg2 : Gl X "set") (hm2 : X.mg "set" = none) (hv2 : bootBuiltins "set" = some (.type "set")) (he : EvE X T EE e f)
    (hs : starEach [.Call (.Name "set" p2) [e] [] pos2] X.env = (false, eval (.Call (.Name "set" p2) [e] [] pos2) X.env) :: starEach [] X.env := by rfl) (hs2 : starEach [e] X.env = (false, eval e X.env) :: starEach [] X.env := by rfl) :
    EvL X T EE (.Call (.Name "sorted" p) [.Call (.Name "set" p2) [e] [] pos2] [] pos) (fun ρ => M.bind (f ρ) fun d => M.opt (setSortD d)) := by
  have cs : CallR X (.type "set") (fun vs H Q => ∃ (a : Addr) (ns : List Int), vs = [.ref a] ∧ SqL X.K H a (ns.map V.int) ∧ ns.length + 1 < scanBound ∧ ∀ q c, H q = none → c ≤ ns.length → Q (.ref q) (upd H q (SetO X.w q (fun j => decide (j ∈ ns)) c))) := by
    intro pins s σ H vs us Q I rv h
    obtain ⟨a, ns, rfl, s1, hb, q⟩ := h
    rw [Vals.ref1 rv]
    obtain ⟨its, rv2, pl, hz⟩ := I.list s1
    refine set_of_list ns (I.ok.hd hc) pl.isList (by simpa using rv2.ints) hb fun g tk c R hcl keep => ?_
    have np : H s.heap.objs.size = none := I.hok.fresh (Nat.le_refl _)
    exact ⟨.ref _, _, I.laid (t' := tk) keep (Nat.le_refl _) (setO_new R), rfl, q _ c np hcl⟩
  have so : CallR X (.builtin "sorted") (fun vs H Q => ∃ (a : Addr) (M : Int → Bool) (n : Nat), vs = [V.ref a] ∧ H a = some (SetO X.w a M n) ∧ n ≤ sizeLine ∧
      ∀ (ns : List Int) (q : Addr), ns.Pairwise (· < ·) → (∀ k : Int, k ∈ ns ↔ M k = true) → ns.length = n → H q = none → Q (.ref q) (upd H q (.lst (ns.map V.int)))) := by
    intro pins s σ H vs us Q I r h
    obtain ⟨a, M, n, rfl, ha, hz, q⟩ := h
    rw [Vals.ref1 r]
    refine sorted_setAny (setO_get I ha) (I.ok.hd hc) hz fun t p out c ns keep gg oo hp hg hi hs hm hl => ?_
    have hn : H p = none := I.hok.fresh hp
    have J : Inv X pins σ (upd H p (.lst (ns.map V.int))) { s with heap := t.heap, gens := t.gens, drawn := t.drawn, toks := t.toks } :=
      I.call (ch := []) (Un.laid keep hp hn) (I.hok.laid keep hp ⟨by rw [List.length_map, hl]; exact hz, out, c, vals_of_ints hi, hg⟩) (by rw [gg]; exact I.bare) (fun _ z => nomatch z)
    have e : t = { s with heap := t.heap, gens := t.gens, drawn := t.drawn, toks := t.toks } := by
      cases t
      cases s
      cases oo
      rfl
    rw [e]
    exact ⟨.ref p, _, J, rfl, q ns p hs hm hl hn⟩
  have pset := pe_callTy (p := p2) (pos := pos2) cs hg2 hm2 hv2 (pa_cons he.pe pa_nil hs2) (by decide) (by decide) hs2 rfl
  refine ⟨(pe_callB (p := p) (pos := pos) so hg hm hv (pa_cons pset pa_nil hs) (by decide) (by decide) hs rfl).dimp fun σ H Q h => ?_⟩
  refine (show dG X.K T EE (repE X.K T) f σ H _ from ?_)
  obtain ⟨_, _, _, _, h1, h2, h3⟩ := bindD (rep := repE X.K T) h
  refine ⟨_, _, _, _, h1, h2, h3.imp fun v H1 ⟨d, γ1, hid, S1, ρ, q1, q3, q4, q5⟩ => ?_⟩
  obtain ⟨l, er, w5⟩ := opt_ok q5
  unfold setSortD at er
  split at er
  · rename_i ns en
    split at er
    · rename_i hb
      cases er
      cases eq : seqL S1 d with
      | none => rw [eq] at en; cases en
      | some l0 =>
        rw [eq] at en
        obtain ⟨a, ws, rfl, s1, z, g⟩ := seqL_ok q1 q4 eq
        obtain ⟨k1, k2⟩ := ints?_rep g en
        subst k1
        refine ⟨a, ns, rfl, s1, hb, fun q c np hc => ?_⟩
        have zn : ns.length ≤ sizeLine := by
          rw [k2, List.length_map] at z
          exact z
        refine ⟨q, _, c, rfl, upd_same, Nat.le_trans hc zn, fun ms p2 hs hm hl hp2 => ?_⟩
        have em : ms = setSort ns := strict_uniq hs (setSort_sorted ns) fun k => by
          rw [hm k, setSort_mem]
          simp
        subst em
        obtain ⟨a1, a2, a3⟩ := q1.lay np (SetO X.w q (fun j => decide (j ∈ ns)) c)
        exact w5 γ1 _ _ a1 a2 ⟨by rw [List.length_map, hl]; exact Nat.le_trans hc zn, rep_ints _⟩ p2 hp2
    · cases er
  · cases er
end
end DL
end
section
set_option maxHeartbeats 4000000
/-! DLj: calls of the text's defs by name; short words for what is computed. -/
namespace DL
open PySem PySem.Spec L2
open PyProof.Rows hiding St
/-- a def of the module, by name, with its promise -/
def FnB (P : Program) (w : World) (K : PySem.W.Frag) (mg : Str → Option Value) (base : Heap) (k : Nat) (x : Str) (ps : List Str) (sp : Sp) : Prop :=
  ∃ fd, PySem.W.keepIn K (.ref (He.ga K x)) = true ∧ mg x = some (.ref (He.ga K x)) ∧ Binds K fd ps [] ∧ FnG P w K mg base k (He.ga K x) fd ps sp
section
variable {P : Program} {w : World} {K : PySem.W.Frag} {mg : Str → Option Value} {base : Heap} {T : Tab}
theorem fnB {x : Str} {k : Nat} {ps : List Str} {sp : Sp} {params : Arguments} {body : List Stmt} {scope : Scope} {dvs : List V} {kws : List (Str × V)}
    (F : ∃ fd, FunD K x x params body scope dvs kws (He.ga K x) fd) (hm : mg x = some (.ref (He.ga K x))) (hb : ∀ fd, FunD K x x params body scope dvs kws (He.ga K x) fd → Binds K fd ps [])
    (h : ∀ fd, FunD K x x params body scope dvs kws (He.ga K x) fd → FnG P w K mg base k (He.ga K x) fd ps sp) : FnB P w K mg base k x ps sp := by
  obtain ⟨fd, F⟩ := F
  exact ⟨fd, F.kp, hm, hb fd F, h fd F⟩
end
section
variable {X : Cx} {T : Tab} {EE : XX} {j k n : Nat} {x : Str} {ps : List Str} {p pos : Pos} {e : Expr} {es : List Expr} {fs : En → M (List D)}
theorem ev_callB {g : List D → M D} (F : FnB X.prog X.w X.K X.mg X.base j x ps (spD X.K T n g)) (hr : Room k X.A) (hj : j ≤ k) (nr : NoRepr X.A) (hg : Gl X x)
    (ha : EvA X T EE (e :: es) fs) (hdb : (x == ("__debug__" : Str)) = false := by decide) (he : starEach (e :: es) X.env = (false, eval e X.env) :: starEach es X.env := by rfl) (hpl : (backTo pos (starEach es X.env)).any (·.1) = false := by rfl) :
    EvE X T EE (.Call (.Name x p) (e :: es) [] pos) (fun ρ => M.bind (fs ρ) fun ds => calmM (arity n g ds)) := by
  obtain ⟨fd, hk, hm, hb, F⟩ := F
  exact ev_call F (hr.mono hj) nr hg hm hk hb ha hdb he hpl
theorem evL_callB {g : List D → M (List D)} (F : FnB X.prog X.w X.K X.mg X.base j x ps (spL X.K T n g)) (hr : Room k X.A) (hj : j ≤ k) (nr : NoRepr X.A) (hg : Gl X x)
    (ha : EvA X T EE (e :: es) fs) (hdb : (x == ("__debug__" : Str)) = false := by decide) (he : starEach (e :: es) X.env = (false, eval e X.env) :: starEach es X.env := by rfl) (hpl : (backTo pos (starEach es X.env)).any (·.1) = false := by rfl) :
    EvL X T EE (.Call (.Name x p) (e :: es) [] pos) (fun ρ => M.bind (fs ρ) fun ds => calmM (arity n g ds)) := by
  obtain ⟨fd, hk, hm, hb, F⟩ := F
  exact evL_call F (hr.mono hj) nr hg hm hk hb ha hdb he hpl
end
/-! isinstance of the usual classes -/
def tabInt (n : String) : Bool := n == "int" || n == "bool"
def tabIs (m : String) (n : String) : Bool := n == m
theorem hk_int : ∀ a ∈ tyNames, kitB a "int" = some (tabInt a) := by decide +kernel
theorem hk_bool : ∀ a ∈ tyNames, kitB a "bool" = some (tabIs "bool" a) := by decide +kernel
theorem hk_str : ∀ a ∈ tyNames, kitB a "str" = some (tabIs "str" a) := by decide +kernel
theorem hk_list : ∀ a ∈ tyNames, kitB a "list" = some (tabIs "list" a) := by decide +kernel
theorem hk_tuple : ∀ a ∈ tyNames, kitB a "tuple" = some (tabIs "tuple" a) := by decide +kernel
/-! short words -/
def b2 (op : D → D → Cells → Option D) (a b : M D) : M D := M.bind a fun x => M.bind b fun y => M.opt (op x y)
def b2L (op : D → D → Cells → Option (List D)) (a b : M D) : M (List D) := M.bind a fun x => M.bind b fun y => M.opt (op x y)
def b1 (op : D → Cells → Option D) (a : M D) : M D := M.bind a fun x => M.opt (op x)
def b2T (op : D → D → Cells → Option D) (a b : M D) : M Bool := M.bind a fun x => M.bind b fun y => M.opt (fun S => (op x y S).bind asB)
def chE (op op' : D → D → Cells → Option D) (a b c : M D) : M D := M.bind a fun x => M.bind b fun y => M.bind (M.opt (fun S => (op x y S).bind asB)) fun k => if k = true then (M.bind c fun z => M.opt (op' y z)) else kon (.bl false)
def notT (a : M Bool) : M Bool := M.bind a fun c S => .ok (!c) S
def valT (a : M D) : M Bool := M.bind a fun x => M.opt (truD x)
def notE (a : M D) : M D := M.bind a fun d => M.bind (M.opt (fun _ => asB d)) fun c => kon (.bl (!c))
def ifE (c : M Bool) (a b : M D) : M D := M.bind c fun k => if k = true then a else b
def ifL (c : M Bool) (a b : M (List D)) : M (List D) := M.bind c fun k => if k = true then a else b
def nilA : M (List D) := fun S => .ok [] S
def tupE (a : M (List D)) : M D := M.bind a fun l => M.opt fun _ => if l.length ≤ sizeLine then some (.tup l) else none
def lstE (a : M (List D)) : M (List D) := M.bind a fun l => M.opt fun _ => if l.length ≤ sizeLine then some l else none
def frzE (a : M (List D)) : M D := M.bind a fun l => kon (.lst l)
def celE (a : M (List D)) : M D := M.bind a newC
def cbE (op : List D → Cells → Option D) (a : M (List D)) : M D := M.bind a fun ds => M.opt (op ds)
def cbL (op : List D → Cells → Option (List D)) (a : M (List D)) : M (List D) := M.bind a fun ds => M.opt (op ds)
def callE (n : Nat) (g : List D → M D) (a : M (List D)) : M D := M.bind a fun ds => calmM (arity n g ds)
def callL (n : Nat) (g : List D → M (List D)) (a : M (List D)) : M (List D) := M.bind a fun ds => calmM (arity n g ds)
def noO : M (Option Int) := fun S => .ok none S
def smO (a : M D) : M (Option Int) := M.bind a fun d => M.opt fun _ => partD d
def slE (a : M D) (i j : M (Option Int)) : M D := M.bind a fun d => M.bind i fun i => M.bind j fun j => M.opt (slD d i j)
def slLL (a : M D) (i j : M (Option Int)) : M (List D) := M.bind a fun d => M.bind i fun i => M.bind j fun j => M.opt (slL d i j)
def revL (a : M D) : M (List D) := M.bind a fun d => M.opt fun S => (seqL S d).map List.reverse
def stepL (a k : M D) : M (List D) := M.bind a fun d => M.bind k fun y => M.opt (sliceStepD d y)
def isiE (tab : String → Bool) (a : M D) : M D := M.bind a fun d => M.opt (isiD tab d)
def setsL (a : M D) : M (List D) := M.bind a fun d => M.opt (setSortD d)
def lrgL (a : M (List D)) : M (List D) := M.bind a fun l => M.opt fun _ => rangeA l
def mthE (tn : String) (op : D → List D → Cells → Option (D × Cells)) (o : M D) (a : M (List D)) : M D := M.bind o fun d => M.bind (M.opt (isTy tn d)) fun _ => M.bind a fun ds => M.chg (op d ds)
def mth0 (tn : String) (op : D → List D → Cells → Option (D × Cells)) (o : M D) : M D := M.bind o fun d => M.bind (M.opt (isTy tn d)) fun _ => M.chg (op d [])
def itS (a : M D) : M (List D) := M.bind a fun d => M.opt fun _ => itemsD d
def itR1 (a : M (List D)) : M (List D) := M.bind a fun l => M.opt fun _ => range1 l
def itR2 (a : M (List D)) : M (List D) := M.bind a fun l => M.opt fun _ => range2 l
def itR3 (a : M (List D)) : M (List D) := M.bind a fun l => M.opt fun _ => range3 l
def itZ (a : M (List D)) : M (List D) := M.bind a fun l => M.opt fun _ => zipA l
def itN (a : M (List D)) : M (List D) := M.bind a fun l => M.opt fun _ => enumA l
def lcL (i : M (List D)) (p : Pat) (t : En → M Bool) (e : En → M D) (ρ : En) (vs : List Nat) : M (List D) := M.bind i fun items => compD p t e (wipeD ρ vs) items
/-! statements -/
def setS (i : Nat) (f : En → M D) : SM := bindS f fun d ρ S => .nx (ρ.set i (some d)) S
def parS (i j : Nat) (f : En → M (List D)) : SM := bindS f fun l ρ S => match l with
  | [d, e] => .nx ((ρ.set i (some d)).set j (some e)) S
  | _ => .stuck
def augS (i : Nat) (op : D → D → Cells → Option D) (f : En → M D) : SM := bindS (fun ρ => M.bind (rd ρ i) fun x => M.bind (f ρ) fun y => M.opt (op x y)) fun d ρ S => .nx (ρ.set i (some d)) S
def stoS (f fo fi : En → M D) : SM := bindS f fun y => bindS fo fun d => bindS fi fun k ρ S => match setAtD d k y S with
  | some S' => .nx ρ S'
  | none => .stuck
def expS (f : En → M D) : SM := bindS f fun _ => nxS
def retS (f : En → M D) : SM := bindS f fun d _ S => .rt d S
def retNS : SM := fun _ S => .rt .non S
def ifS (c : En → M Bool) (F G : SM) : SM := bindS c fun k => if k = true then F else G
def forS (f : En → M (List D)) (p : Pat) (B : SM) : SM := bindS f fun items => forD p B items
def stkS : SM := fun _ _ => .stuck
def bkS : SM := fun ρ S => .bk ρ S
def ctS : SM := fun ρ S => .ct ρ S
end DL
end
section
set_option maxHeartbeats 4000000
/-! DLk: x in a list, list.index. -/
namespace DL
open PySem PySem.Spec L2
open PyProof.Rows hiding St
section
variable {X : Cx} {T : Tab}
theorem hu65 {k : Nat} {A : Around} (r : Room k A) : A.units + 65 < cLine := by have := r.un; omega
def inP (d1 d2 : D) (S : Cells) : Option Bool := match vw S d1, vw S d2 with
  | some p, some (.list zs) => if SeqAt.shaped p = true ∧ SeqAt.shaped (.list zs) = true then some (zs.any fun z => PyData.eqv z p) else none
  | _, _ => none
theorem inP_some {d1 d2 : D} {S : Cells} {b : Bool} (e : inP d1 d2 S = some b) : ∃ p zs, vw S d1 = some p ∧ vw S d2 = some (.list zs) ∧ SeqAt.shaped p = true ∧ SeqAt.shaped (.list zs) = true ∧ b = zs.any fun z => PyData.eqv z p := by
  unfold inP at e
  split at e
  · rename_i p zs h1 h2
    split at e
    · rename_i hs
      cases e
      exact ⟨p, zs, h1, h2, hs.1, hs.2, rfl⟩
    · cases e
  · cases e
def dIn (d1 d2 : D) (S : Cells) : Option D := (inP d1 d2 S).map .bl
def dNotIn (d1 d2 : D) (S : Cells) : Option D := (inP d1 d2 S).map fun b => .bl (!b)
theorem op_dIn (hu : X.A.units + 65 < cLine) : OpR X (compareOp .In) (rO X.K T dIn) := (op_inD hu).dimp fun x y H Q h => by
  obtain ⟨γ, hid, S, d1, d2, d, hold, r1, r2, e, q⟩ := h
  cases eb : inP d1 d2 S with
  | none => unfold dIn at e; rw [eb] at e; cases e
  | some b =>
    unfold dIn at e
    rw [eb] at e
    cases e
    obtain ⟨p, zs, h1, h2, h3, h4, rfl⟩ := inP_some eb
    exact ⟨p, zs, vw_ok hold r1 h1, vw_ok hold r2 h2, h3, h4, q.same hold (.bl _)⟩
theorem op_dNotIn (hu : X.A.units + 65 < cLine) : OpR X (compareOp .NotIn) (rO X.K T dNotIn) := (op_notInD hu).dimp fun x y H Q h => by
  obtain ⟨γ, hid, S, d1, d2, d, hold, r1, r2, e, q⟩ := h
  cases eb : inP d1 d2 S with
  | none => unfold dNotIn at e; rw [eb] at e; cases e
  | some b =>
    unfold dNotIn at e
    rw [eb] at e
    cases e
    obtain ⟨p, zs, h1, h2, h3, h4, rfl⟩ := inP_some eb
    exact ⟨p, zs, vw_ok hold r1 h1, vw_ok hold r2 h2, h3, h4, q.same hold (.bl _)⟩
def ixOf (d y : D) (S : Cells) : Option Nat := match vw S d, vw S y with
  | some (.list zs), some p => if SeqAt.shaped (.list zs) = true ∧ SeqAt.shaped p = true then zs.findIdx? fun z => PyData.eqv z p else none
  | _, _ => none
def mIndex (d : D) (ds : List D) (S : Cells) : Option (D × Cells) := match ds with
  | [y] => (ixOf d y S).map fun j => (.int (j : Nat), S)
  | _ => none
theorem mt_mIndex (hu : X.A.units + 65 < cLine) : MtR X "list.index" (rMt X.K T mIndex) := by
  intro pins s σ H x vs v us Q I rx rv h
  refine mt_indexD hu pins s σ H x vs v us Q I rx rv ?_
  obtain ⟨γ, hid, S, d, ds, d', S', hold, r1, r2, e, q⟩ := h
  unfold mIndex at e
  split at e
  · rename_i y
    cases ej : ixOf d y S with
    | none => rw [ej] at e; cases e
    | some j =>
      rw [ej] at e
      cases e
      unfold ixOf at ej
      split at ej
      · rename_i zs p h1 h2
        split at ej
        · rename_i hs
          obtain ⟨w, rfl, ry⟩ := rep1 r2
          have a1 := vw_ok hold r1 h1
          have a2 := vw_ok hold ry h2
          obtain ⟨hj, hz, hno⟩ := List.findIdx?_eq_some_iff_getElem.mp ej
          have hr : ∃ a, x = .ref a := by cases a1 <;> exact ⟨_, rfl⟩
          obtain ⟨a, rfl⟩ := hr
          refine ⟨a, w, p, zs, j, zs[j], rfl, rfl, a1, a2, hs.1, hs.2, List.getElem?_eq_getElem hj, hz, fun m z' hm hz' => ?_, q.same hold (.int _)⟩
          obtain ⟨hm', rfl⟩ := List.getElem?_eq_some_iff.mp hz'
          have := hno m hm
          simpa using this
        · cases ej
      · cases ej
  · cases e
end
/-! a < b < c as a test -/
section
variable {X : Cx} {T : Tab} {EE : XX} {a b c : Expr} {fa fb fc : En → M D} {pos : Pos} {o o' : CmpOp} {op op' : D → D → Cells → Option D}
theorem chain_read {σ : St} {H : Hp} {Q : VK} (h : dE X.K T EE (fun ρ => chE op op' (fa ρ) (fb ρ) (fc ρ)) σ H Q) : tChain (rO X.K T op) (rO X.K T op') (dE X.K T EE fa) (dE X.K T EE fb) (dE X.K T EE fc) σ H Q := by
  have h : dE X.K T EE (fun ρ => M.bind (fa ρ) fun x => M.bind (fb ρ) fun y => M.bind (M.opt (fun S => (op x y S).bind asB)) fun k => if k = true then (M.bind (fc ρ) fun z => M.opt (op' y z)) else kon (.bl false)) σ H Q := h
  refine (show dG X.K T EE (repE X.K T) fa σ H _ from ?_)
  obtain ⟨γ, hid, S, ρ, hold, env, h⟩ := h
  obtain ⟨_, _, _, _, h1, h2, h3⟩ := bindR (rep := repE X.K T) hold env h
  refine ⟨_, _, _, _, h1, h2, h3.imp fun x H1 ⟨d1, γ1, S1, q1, q2, q3, q4, q5⟩ => ?_⟩
  obtain ⟨_, _, _, _, h1, h2, h3⟩ := bindR (rep := repE X.K T) q1 q3 q5
  refine ⟨_, _, _, _, h1, h2, h3.imp fun y H2 ⟨d2, γ2, S2, w1, w2, w3, w4, w5⟩ => ?_⟩
  cases q : op d1 d2 S2 with
  | none =>
    rw [bind_of_stuck (opt_none (by rw [q]; rfl))] at w5
    exact w5.elim
  | some d =>
    cases q2 : asB d with
    | none =>
      rw [bind_of_stuck (opt_none (by rw [q]; exact q2))] at w5
      exact w5.elim
    | some k =>
      rw [bind_of_ok (opt_some (a := k) (by rw [q]; exact q2))] at w5
      refine ⟨γ2, hid, S2, d1, d2, d, w1, w2.rp q4, w4, q, fun γ' H' v c1 c2 c3 => ?_⟩
      obtain ⟨rfl, rfl⟩ := asB_ok c3 q2
      refine ⟨k, rfl, ?_⟩
      have env3 := w3.mono c2.pre (c2.sameH hid)
      have w6 := w5.base c2
      cases hk : k with
      | true =>
        rw [if_pos hk] at w6
        rw [if_pos rfl]
        obtain ⟨_, _, _, _, h1, h2, h3⟩ := bindR (rep := repE X.K T) (f := fc) c1 env3 w6
        refine ⟨_, _, _, _, h1, h2, h3.imp fun z H3 ⟨d3, γ3, S3, u1, u2, u3, u4, u5⟩ => ?_⟩
        obtain ⟨d', e, u5⟩ := opt_ok u5
        exact ⟨γ3, hid, S3, d2, d3, d', u1, u2.rp (c2.rp w4), u4, e, u5⟩
      | false =>
        rw [if_neg (by rw [hk]; exact Bool.false_ne_true)] at w6
        rw [if_neg Bool.false_ne_true]
        exact w6 γ' H' _ c1 (Ext.refl _ _ _) (.bl _)
theorem evt_chain (ho : OpR X (compareOp o) (rO X.K T op)) (ho' : OpR X (compareOp o') (rO X.K T op')) (ha : EvE X T EE a fa) (hb : EvE X T EE b fb) (hc : EvE X T EE c fc) (hm : lastMarks [o, o'] [b, c] = false := by rfl) :
    EvT X T EE (.Compare a [o, o'] [b, c] pos) (fun ρ => M.bind (chE op op' (fa ρ) (fb ρ) (fc ρ)) fun x => M.opt fun _ => asB x) := by
  refine ⟨(pt_chain ho ho' ha.pe hb.pe hc.pe hm).dimp fun σ H Q h => chain_read ?_⟩
  obtain ⟨γ, hid, S, ρ, hold, env, h⟩ := h
  obtain ⟨_, _, _, _, h1, h2, h3⟩ := bindR (rep := repE X.K T) (f := fun ρ => chE op op' (fa ρ) (fb ρ) (fc ρ)) hold env h
  refine ⟨_, _, _, _, h1, h2, h3.imp fun x H1 ⟨d1, γ1, S1, q1, q2, q3, q4, q5⟩ => ?_⟩
  obtain ⟨k, e, w⟩ := opt_ok q5
  obtain ⟨rfl, rfl⟩ := asB_ok q4 e
  exact ⟨k, rfl, w γ1 H1 k q1 (Ext.refl _ _ _) rfl⟩
def chT (op op' : D → D → Cells → Option D) (a b c : M D) : M Bool := M.bind (chE op op' a b c) fun x => M.opt fun _ => asB x
end
end DL
end
section
set_option maxHeartbeats 4000000
/-! DLm: reckoning with readings. -/
namespace DL
open PySem PySem.Spec L2
open PyProof.Rows hiding St
section
variable {α β : Type} {S S1 S2 S3 : Cells} {ρ : En}
theorem bd_ok {f : M α} {g : α → M β} {a : α} {r : R β} (h : f S = .ok a S1) (h2 : g a S1 = r) : M.bind f g S = r := by unfold M.bind; rw [h]; exact h2
theorem op_ok {f : Cells → Option α} {a : α} (h : f S = some a) : M.opt f S = .ok a S := by unfold M.opt; rw [h]
theorem b2_ok {op : D → D → Cells → Option D} {a b : M D} {x y z : D} (h1 : a S = .ok x S1) (h2 : b S1 = .ok y S2) (h3 : op x y S2 = some z) : b2 op a b S = .ok z S2 := bd_ok h1 (bd_ok h2 (op_ok h3))
theorem b2L_ok {op : D → D → Cells → Option (List D)} {a b : M D} {x y : D} {z : List D} (h1 : a S = .ok x S1) (h2 : b S1 = .ok y S2) (h3 : op x y S2 = some z) : b2L op a b S = .ok z S2 := bd_ok h1 (bd_ok h2 (op_ok h3))
theorem b1_ok {op : D → Cells → Option D} {a : M D} {x z : D} (h1 : a S = .ok x S1) (h3 : op x S1 = some z) : b1 op a S = .ok z S1 := bd_ok h1 (op_ok h3)
theorem b2T_ok {op : D → D → Cells → Option D} {a b : M D} {x y : D} {z : Bool} (h1 : a S = .ok x S1) (h2 : b S1 = .ok y S2) (h3 : op x y S2 = some (.bl z)) : b2T op a b S = .ok z S2 := bd_ok h1 (bd_ok h2 (op_ok (by show (op x y S2).bind asB = _; rw [h3]; rfl)))
theorem cons_ok {x : M D} {y : M (List D)} {d : D} {l : List D} (h1 : x S = .ok d S1) (h2 : y S1 = .ok l S2) : consM x y S = .ok (d :: l) S2 := bd_ok h1 (bd_ok h2 rfl)
theorem cb_ok {op : List D → Cells → Option D} {a : M (List D)} {l : List D} {z : D} (h1 : a S = .ok l S1) (h2 : op l S1 = some z) : cbE op a S = .ok z S1 := bd_ok h1 (op_ok h2)
theorem cbL_ok {op : List D → Cells → Option (List D)} {a : M (List D)} {l : List D} {z : List D} (h1 : a S = .ok l S1) (h2 : op l S1 = some z) : cbL op a S = .ok z S1 := bd_ok h1 (op_ok h2)
theorem tup_ok {a : M (List D)} {l : List D} (h1 : a S = .ok l S1) (h2 : l.length ≤ sizeLine) : tupE a S = .ok (.tup l) S1 := bd_ok h1 (op_ok (if_pos h2))
theorem lst_ok {a : M (List D)} {l : List D} (h1 : a S = .ok l S1) (h2 : l.length ≤ sizeLine) : lstE a S = .ok l S1 := bd_ok h1 (op_ok (if_pos h2))
theorem frz_ok {a : M (List D)} {l : List D} (h1 : a S = .ok l S1) : frzE a S = .ok (.lst l) S1 := bd_ok h1 rfl
theorem cel_ok {a : M (List D)} {l : List D} (h1 : a S = .ok l S1) (h2 : flatL l = true) : celE a S = .ok (.ref S1.length) (S1 ++ [⟨true, .lst l⟩]) := bd_ok h1 (by unfold newC M.chg; simp only [h2, if_true])
theorem ar_ok {n : Nat} {g : List D → M α} {l : List D} {z : α} (hn : l.length = n) (h2 : g l S = .ok z S1) : calmM (arity n g l) S = .ok z S1 := calm_of (by unfold arity; rw [if_pos hn]; exact h2)
theorem call_ok {n : Nat} {g : List D → M D} {a : M (List D)} {l : List D} {z : D} (h1 : a S = .ok l S1) (h2 : g l S1 = .ok z S2) (hn : l.length = n := by rfl) : callE n g a S = .ok z S2 := bd_ok h1 (ar_ok hn h2)
theorem callL_ok {n : Nat} {g : List D → M (List D)} {a : M (List D)} {l : List D} {z : List D} (h1 : a S = .ok l S1) (h2 : g l S1 = .ok z S2) (hn : l.length = n := by rfl) : callL n g a S = .ok z S2 := bd_ok h1 (ar_ok hn h2)
theorem val_ok {a : M D} {d : D} {b : Bool} (h1 : a S = .ok d S1) (h2 : truD d S1 = some b) : valT a S = .ok b S1 := bd_ok h1 (op_ok h2)
theorem not_ok {a : M Bool} {b : Bool} (h1 : a S = .ok b S1) : notT a S = .ok (!b) S1 := bd_ok h1 rfl
theorem itS_ok {a : M D} {d : D} {l : List D} (h1 : a S = .ok d S1) (h2 : itemsD d = some l) : itS a S = .ok l S1 := bd_ok h1 (op_ok h2)
theorem and_t {x y : M Bool} {r : R Bool} (h1 : x S = .ok true S1) (h2 : y S1 = r) : andM x y S = r := bd_ok h1 h2
theorem and_f {x y : M Bool} (h1 : x S = .ok false S1) : andM x y S = .ok false S1 := bd_ok h1 rfl
theorem or_t {x y : M Bool} (h1 : x S = .ok true S1) : orM x y S = .ok true S1 := bd_ok h1 rfl
theorem or_f {x y : M Bool} {r : R Bool} (h1 : x S = .ok false S1) (h2 : y S1 = r) : orM x y S = r := bd_ok h1 h2
theorem andE_t {x y : M D} {r : R D} (h1 : x S = .ok (.bl true) S1) (h2 : y S1 = r) : andE x y S = r := bd_ok h1 (bd_ok (op_ok rfl) h2)
theorem andE_f {x y : M D} (h1 : x S = .ok (.bl false) S1) : andE x y S = .ok (.bl false) S1 := bd_ok h1 (bd_ok (op_ok rfl) rfl)
theorem orE_t {x y : M D} (h1 : x S = .ok (.bl true) S1) : orE x y S = .ok (.bl true) S1 := bd_ok h1 (bd_ok (op_ok rfl) rfl)
theorem orE_f {x y : M D} {r : R D} (h1 : x S = .ok (.bl false) S1) (h2 : y S1 = r) : orE x y S = r := bd_ok h1 (bd_ok (op_ok rfl) h2)
theorem ifE_t {c : M Bool} {a b : M D} {r : R D} (h1 : c S = .ok true S1) (h2 : a S1 = r) : ifE c a b S = r := bd_ok h1 h2
theorem ifE_f {c : M Bool} {a b : M D} {r : R D} (h1 : c S = .ok false S1) (h2 : b S1 = r) : ifE c a b S = r := bd_ok h1 h2
theorem mth_ok {tn : String} {op : D → List D → Cells → Option (D × Cells)} {o : M D} {a : M (List D)} {d z : D} {l : List D} (h1 : o S = .ok d S1) (h2 : isTy tn d S1 = some ()) (h3 : a S1 = .ok l S2) (h4 : op d l S2 = some (z, S3)) : mthE tn op o a S = .ok z S3 :=
  bd_ok h1 (bd_ok (op_ok h2) (bd_ok h3 (by unfold M.chg; rw [h4])))
/-! statements -/
theorem bS_ok {f : En → M α} {g : α → SM} {a : α} {o : Out} (h1 : f ρ S = .ok a S1) (h2 : g a ρ S1 = o) : bindS f g ρ S = o := by unfold bindS; rw [h1]; exact h2
theorem sq_nx {F G : SM} {ρ1 : En} {o : Out} (h1 : F ρ S = .nx ρ1 S1) (h2 : G ρ1 S1 = o) : seqS F G ρ S = o := by unfold seqS; rw [h1]; exact h2
theorem sq_rt {F G : SM} {d : D} (h1 : F ρ S = .rt d S1) : seqS F G ρ S = .rt d S1 := by unfold seqS; rw [h1]
theorem set_ok {i : Nat} {f : En → M D} {d : D} (h1 : f ρ S = .ok d S1) : setS i f ρ S = .nx (ρ.set i (some d)) S1 := bS_ok h1 rfl
theorem par_ok {i j : Nat} {f : En → M (List D)} {d e : D} (h1 : f ρ S = .ok [d, e] S1) : parS i j f ρ S = .nx ((ρ.set i (some d)).set j (some e)) S1 := bS_ok h1 rfl
theorem aug_ok {i : Nat} {op : D → D → Cells → Option D} {f : En → M D} {x y z : D} (h0 : rd ρ i S = .ok x S) (h1 : f ρ S = .ok y S1) (h2 : op x y S1 = some z) : augS i op f ρ S = .nx (ρ.set i (some z)) S1 := bS_ok (bd_ok h0 (bd_ok h1 (op_ok h2))) rfl
theorem exp_ok {f : En → M D} {d : D} (h1 : f ρ S = .ok d S1) : expS f ρ S = .nx ρ S1 := bS_ok h1 rfl
theorem ret_ok {f : En → M D} {d : D} (h1 : f ρ S = .ok d S1) : retS f ρ S = .rt d S1 := bS_ok h1 rfl
theorem if_t {c : En → M Bool} {F G : SM} {o : Out} (h1 : c ρ S = .ok true S1) (h2 : F ρ S1 = o) : ifS c F G ρ S = o := bS_ok h1 h2
theorem if_f {c : En → M Bool} {F G : SM} {o : Out} (h1 : c ρ S = .ok false S1) (h2 : G ρ S1 = o) : ifS c F G ρ S = o := bS_ok h1 h2
theorem for_ok {f : En → M (List D)} {p : Pat} {B : SM} {l : List D} {o : Out} (h1 : f ρ S = .ok l S1) (h2 : forD p B l ρ S1 = o) : forS f p B ρ S = o := bS_ok h1 h2
theorem sto_ok {f fo fi : En → M D} {y d k : D} {S4 : Cells} (h1 : f ρ S = .ok y S1) (h2 : fo ρ S1 = .ok d S2) (h3 : fi ρ S2 = .ok k S3) (h4 : setAtD d k y S3 = some S4) : stoS f fo fi ρ S = .nx ρ S4 := bS_ok h1 (bS_ok h2 (bS_ok h3 (by simp only [h4])))
/-! a def's end -/
theorem body_rt {N : Nat} {B : SM} {ds : List D} {d : D} (h : B (startD N ds) S = .rt d S1) (hf : d.flat = true) (hl : S1.take S.length = S) : bodyD N B ds S = .ok d S := by
  unfold bodyD
  rw [h]
  show retD S.length S1 (resv S.length S1 d) = _
  rw [resv_flat _ _ _ hf]
  show DL.R.ok d (S1.take S.length) = _
  rw [hl]
theorem body_rt' {N : Nat} {B : SM} {ds : List D} {d : D} (h : B (startD N ds) S = .rt d S1) (hf : d.flat = true) : bodyD N B ds S = .ok d (S1.take S.length) := by
  unfold bodyD
  rw [h]
  show retD S.length S1 (resv S.length S1 d) = _
  rw [resv_flat _ _ _ hf]
  rfl
/-- a changed list is handed back as a new one -/
theorem body_ref {N : Nat} {B : SM} {ds : List D} {n : Nat} {b : Bool} {l : List D} (h : B (startD N ds) S = .rt (.ref n) S1) (hn : S.length ≤ n) (hc : S1[n]? = some ⟨b, .lst l⟩) : bodyD N B ds S = .ok (.lst l) (S1.take S.length) := by
  unfold bodyD
  rw [h]
  show retD S.length S1 (resv S.length S1 (.ref n)) = _
  unfold resv
  rw [if_neg (by omega), hc]
  rfl
theorem bodyL_ref {N : Nat} {B : SM} {ds : List D} {n : Nat} {l : List D} (h : B (startD N ds) S = .rt (.ref n) S1) (hn : S.length ≤ n) (hc : S1[n]? = some ⟨true, .lst l⟩) : bodyL N B ds S = .ok l (S1.take S.length) := by
  unfold bodyL
  rw [h]
  show (if S.length ≤ n then (match S1[n]? with
    | some ⟨true, .lst l⟩ => .ok l (S1.take S.length)
    | _ => .stuck : DL.R (List D)) else .stuck) = _
  rw [if_pos hn, hc]
theorem body_nx {N : Nat} {B : SM} {ds : List D} {ρ1 : En} (h : B (startD N ds) S = .nx ρ1 S1) (hl : S1.take S.length = S) : bodyD N B ds S = .ok .non S := by
  unfold bodyD
  rw [h]
  show DL.R.ok D.non (S1.take S.length) = _
  rw [hl]
theorem take_same : S.take S.length = S := List.take_length
theorem take_more {l : Cells} : (S ++ l).take S.length = S := by rw [List.take_left']; rfl
theorem get_new {c : Cell} : (S ++ [c])[S.length]? = some c := by simp
/-- from a new list, in a def that hands it back at once -/
theorem bodyL_new {N : Nat} {B : SM} {ds l : List D} (h : B (startD N ds) S = .rt (.ref S.length) (S ++ [⟨true, .lst l⟩])) : bodyL N B ds S = .ok l S := by
  rw [bodyL_ref h (Nat.le_refl _) get_new, take_more]
/-! loops -/
theorem for_nil {p : Pat} {B : SM} : forD p B [] ρ S = .nx ρ S := rfl
theorem for_cons {p : Pat} {B : SM} {d : D} {ds : List D} {ρ1 ρ2 : En} {o : Out} (h1 : p.put d ρ = some ρ1) (h2 : B ρ1 S = .nx ρ2 S1) (h3 : forD p B ds ρ2 S1 = o) : forD p B (d :: ds) ρ S = o := by
  rw [forD_cons, h1]
  show stepD (forD p B ds) (B ρ1 S) = o
  rw [h2]
  exact h3
theorem for_cons_rt {p : Pat} {B : SM} {d e : D} {ds : List D} {ρ1 : En} (h1 : p.put d ρ = some ρ1) (h2 : B ρ1 S = .rt e S1) : forD p B (d :: ds) ρ S = .rt e S1 := by
  rw [forD_cons, h1]
  show stepD (forD p B ds) (B ρ1 S) = _
  rw [h2]
  rfl
/-- a loop that keeps an invariant, item by item -/
theorem for_I {p : Pat} {B : SM} {γ σ : Type} (enc : γ → D) (st : σ → γ → σ) (I : σ → En → Cells → Prop) (l : List γ)
    (h : ∀ a ∈ l, ∀ s ρ S, I s ρ S → ∃ ρ1 ρ2 S2, p.put (enc a) ρ = some ρ1 ∧ B ρ1 S = .nx ρ2 S2 ∧ I (st s a) ρ2 S2) :
    ∀ s ρ S, I s ρ S → ∃ ρ2 S2, forD p B (l.map enc) ρ S = .nx ρ2 S2 ∧ I (l.foldl st s) ρ2 S2 := by
  induction l with
  | nil => exact fun s ρ S i => ⟨ρ, S, rfl, i⟩
  | cons a l ih =>
    intro s ρ S i
    obtain ⟨ρ1, ρ2, S2, e1, e2, i2⟩ := h a List.mem_cons_self s ρ S i
    obtain ⟨ρ3, S3, e3, i3⟩ := ih (fun b hb => h b (List.mem_cons_of_mem _ hb)) _ _ _ i2
    exact ⟨ρ3, S3, for_cons e1 e2 e3, i3⟩
/-! comprehensions -/
theorem comp_nil {p : Pat} {ft : En → M Bool} {fe : En → M D} : compD p ft fe ρ [] S = .ok [] S := rfl
theorem comp_t {p : Pat} {ft : En → M Bool} {fe : En → M D} {d y : D} {ds l : List D} {ρ1 : En} (h1 : p.put d ρ = some ρ1) (h2 : ft ρ1 S = .ok true S1) (h3 : fe ρ1 S1 = .ok y S2) (h4 : compD p ft fe ρ ds S2 = .ok l S3) : compD p ft fe ρ (d :: ds) S = .ok (y :: l) S3 := by
  unfold compD
  rw [h1]
  show M.bind (calmM (ft ρ1)) _ S = _
  exact bd_ok (calm_of h2) (bd_ok (calm_of h3) (bd_ok h4 rfl))
theorem comp_f {p : Pat} {ft : En → M Bool} {fe : En → M D} {d : D} {ds : List D} {ρ1 : En} {r : R (List D)} (h1 : p.put d ρ = some ρ1) (h2 : ft ρ1 S = .ok false S1) (h4 : compD p ft fe ρ ds S1 = r) : compD p ft fe ρ (d :: ds) S = r := by
  unfold compD
  rw [h1]
  show M.bind (calmM (ft ρ1)) _ S = _
  exact bd_ok (calm_of h2) h4
theorem lc_mk {i : M (List D)} {p : Pat} {t : En → M Bool} {e : En → M D} {vs : List Nat} {items l : List D} (h1 : i S = .ok items S1) (h2 : compD p t e (wipeD ρ vs) items S1 = .ok l S2) : lcL i p t e ρ vs S = .ok l S2 := bd_ok h1 h2
/-- each item by a function -/
theorem comp_map {p : Pat} {fe : En → M D} {γ : Type} (enc : γ → D) (f : γ → D) (l : List γ) (h : ∀ a ∈ l, ∃ ρ1, p.put (enc a) ρ = some ρ1 ∧ fe ρ1 S = .ok (f a) S) : compD p (fun _ => yesM) fe ρ (l.map enc) S = .ok (l.map f) S := by
  induction l with
  | nil => rfl
  | cons a l ih =>
    obtain ⟨ρ1, e1, e2⟩ := h a List.mem_cons_self
    exact comp_t e1 rfl e2 (ih fun b hb => h b (List.mem_cons_of_mem _ hb))
theorem comp_filter {p : Pat} {ft : En → M Bool} {fe : En → M D} {γ : Type} (enc : γ → D) (t : γ → Bool) (f : γ → D) (l : List γ) (h : ∀ a ∈ l, ∃ ρ1, p.put (enc a) ρ = some ρ1 ∧ ft ρ1 S = .ok (t a) S ∧ (t a = true → fe ρ1 S = .ok (f a) S)) :
    compD p ft fe ρ (l.map enc) S = .ok ((l.filter t).map f) S := by
  induction l with
  | nil => rfl
  | cons a l ih =>
    obtain ⟨ρ1, e1, e2, e3⟩ := h a List.mem_cons_self
    have ih := ih fun b hb => h b (List.mem_cons_of_mem _ hb)
    cases ht : t a with
    | true =>
      rw [List.filter_cons_of_pos (by rw [ht])]
      rw [ht] at e2
      exact comp_t e1 e2 (e3 ht) ih
    | false =>
      rw [List.filter_cons_of_neg (by rw [ht]; simp)]
      rw [ht] at e2
      exact comp_f e1 e2 ih
/-- each item by a step that changes the store -/
theorem comp_I {p : Pat} {fe : En → M D} (J : Nat → Cells → Prop) (Q : D → Prop) : ∀ (ds : List D) (k : Nat) (S : Cells), J k S → (∀ d ∈ ds, ∀ k S, J k S → ∃ ρ1 y S2, p.put d ρ = some ρ1 ∧ fe ρ1 S = .ok y S2 ∧ Q y ∧ J (k + 1) S2) →
    ∃ l S2, compD p (fun _ => yesM) fe ρ ds S = .ok l S2 ∧ (∀ y ∈ l, Q y) ∧ l.length = ds.length ∧ J (k + ds.length) S2
  | [], k, S, j, _ => ⟨[], S, rfl, fun y h => by simp at h, rfl, j⟩
  | d :: ds, k, S, j, h => by
    obtain ⟨ρ1, y, S2, e1, e2, q, j2⟩ := h d List.mem_cons_self k S j
    obtain ⟨l, S3, e3, q3, n3, j3⟩ := comp_I J Q ds (k + 1) S2 j2 fun b hb => h b (List.mem_cons_of_mem _ hb)
    refine ⟨y :: l, S3, comp_t e1 rfl e2 e3, fun z hz => ?_, by simp [n3], ?_⟩
    · rcases List.mem_cons.mp hz with e | hz
      · rw [e]; exact q
      · exact q3 z hz
    · rw [List.length_cons, show k + (ds.length + 1) = k + 1 + ds.length by omega]
      exact j3
end
theorem bls?_all {l : List Bool} : (l.map D.bl).map id = l.map D.bl := by simp
end DL
end
section
set_option maxHeartbeats 0
/-! MScan: lists of scans as pairs of whole numbers: the addresses that they read, the tidy list. No program in sight. -/
namespace MS
abbrev P := Int × Int
/-- the addresses of a scan, in order -/
def rng (p : P) : List Int := if p.1 ≤ p.2 then (List.range (p.2 - p.1 + 1).toNat).map fun k => p.1 + (k : Nat) else (List.range (p.1 - p.2 + 1).toNat).map fun k => p.1 - (k : Nat)
def reads (l : List P) : List Int := l.flatMap rng
def dist (a b : Int) : Int := if a - b < 0 then -(a - b) else a - b
def touch (a b : Int) : Bool := decide (dist a b = 1)
theorem touch_iff {a b : Int} : touch a b = true ↔ a = b + 1 ∨ b = a + 1 := by
  unfold touch dist
  simp only [decide_eq_true_eq]
  split <;> omega
/-- one scan put behind -/
def stp (acc : List P) (p : P) : List P := match acc.getLast? with
  | some q => if touch q.2 p.1 = true then acc.dropLast ++ [(q.1, p.2)] else acc ++ [p]
  | none => acc ++ [p]
def tid (l : List P) : List P := l.foldl stp []
theorem stp_nil (p : P) : stp [] p = [p] := rfl
theorem stp_snoc (l : List P) (q p : P) : stp (l ++ [q]) p = if touch q.2 p.1 = true then l ++ [(q.1, p.2)] else l ++ [q, p] := by
  unfold stp
  simp
theorem stp_ne (l : List P) (p : P) : stp l p ≠ [] := by
  unfold stp
  split
  · split <;> simp
  · simp
def diag (a : Int) : P := (a, a)
theorem rng_up {a b : Int} (h : a ≤ b) : rng (a, b) = a :: (if a + 1 ≤ b then rng (a + 1, b) else []) := by
  unfold rng
  simp only [h, if_true]
  rw [show (b - a + 1).toNat = (b - a).toNat + 1 by omega, List.range_succ_eq_map, List.map_cons, List.map_map]
  split
  · rename_i h2
    rw [show (b - (a + 1) + 1).toNat = (b - a).toNat by omega]
    congr 1
    · simp
    · apply List.map_congr_left
      intro k _
      simp only [Function.comp, Nat.succ_eq_add_one]
      omega
  · rename_i h2
    rw [show (b - a).toNat = 0 by omega]
    simp
theorem rng_dn {a b : Int} (h : b < a) : rng (a, b) = a :: rng (a - 1, b) := by
  unfold rng
  rw [if_neg (by simp; omega)]
  by_cases h2 : a - 1 ≤ b
  · rw [if_pos (by simpa using h2)]
    simp only
    rw [show (a - b + 1).toNat = 2 by omega, show (b - (a - 1) + 1).toNat = 1 by omega]
    simp [List.range_succ]
    skip
  · rw [if_neg (by simpa using h2)]
    simp only
    rw [show (a - b + 1).toNat = (a - 1 - b + 1).toNat + 1 by omega, List.range_succ_eq_map, List.map_cons, List.map_map]
    congr 1
    · simp
    · apply List.map_congr_left
      intro k _
      simp only [Function.comp, Nat.succ_eq_add_one]
      omega
theorem rng_one (a : Int) : rng (a, a) = [a] := by
  rw [rng_up (Int.le_refl a), if_neg (by omega)]
/-- a run, one by one, behind a list that ends where the run begins -/
theorem run_up : ∀ (n : Nat) (a b : Int) (l : List P) (c : Int), (b - a).toNat = n → a ≤ b → ((rng (a, b)).map diag).foldl stp (l ++ [(c, a - 1)]) = l ++ [(c, b)]
  | 0, a, b, l, c, hn, h => by
    have e : a = b := by omega
    subst e
    rw [rng_one]
    show stp (l ++ [(c, a - 1)]) (a, a) = _
    rw [stp_snoc, if_pos (touch_iff.mpr (.inr (by show a = a - 1 + 1; omega)))]
  | n + 1, a, b, l, c, hn, h => by
    rw [rng_up h, if_pos (by omega), List.map_cons, List.foldl_cons]
    show List.foldl stp (stp (l ++ [(c, a - 1)]) (a, a)) _ = _
    rw [stp_snoc, if_pos (touch_iff.mpr (.inr (by show a = a - 1 + 1; omega)))]
    have := run_up n (a + 1) b l c (by omega) (by omega)
    rw [show a + 1 - 1 = a by omega] at this
    exact this
theorem run_dn : ∀ (n : Nat) (a b : Int) (l : List P) (c : Int), (a - b).toNat = n → b ≤ a → ((rng (a, b)).map diag).foldl stp (l ++ [(c, a + 1)]) = l ++ [(c, b)]
  | 0, a, b, l, c, hn, h => by
    have e : a = b := by omega
    subst e
    rw [rng_one]
    show stp (l ++ [(c, a + 1)]) (a, a) = _
    rw [stp_snoc, if_pos (touch_iff.mpr (.inl (by show a + 1 = a + 1; rfl)))]
  | n + 1, a, b, l, c, hn, h => by
    rw [rng_dn (by omega), List.map_cons, List.foldl_cons]
    show List.foldl stp (stp (l ++ [(c, a + 1)]) (a, a)) _ = _
    rw [stp_snoc, if_pos (touch_iff.mpr (.inl (by show a + 1 = a + 1; rfl)))]
    have := run_dn n (a - 1) b l c (by omega) (by omega)
    rw [show a - 1 + 1 = a by omega] at this
    exact this
/-- one run is one step -/
theorem run_step (acc : List P) (p : P) : ((rng p).map diag).foldl stp acc = stp acc p := by
  obtain ⟨a, b⟩ := p
  have first : ∃ l c, stp acc (a, a) = l ++ [(c, a)] ∧ stp acc (a, b) = l ++ [(c, b)] := by
    rcases List.eq_nil_or_concat acc with e | ⟨l, q, e⟩
    · subst e
      exact ⟨[], a, rfl, rfl⟩
    · rw [List.concat_eq_append] at e
      subst e
      rw [stp_snoc, stp_snoc]
      show ∃ l' c, (if touch q.2 a = true then _ else _) = _ ∧ (if touch q.2 a = true then _ else _) = _
      split
      · exact ⟨l, q.1, rfl, rfl⟩
      · exact ⟨l ++ [q], a, by simp, by simp⟩
  obtain ⟨l, c, e1, e2⟩ := first
  rw [e2]
  by_cases h : a ≤ b
  · rw [rng_up h, List.map_cons, List.foldl_cons]
    show List.foldl stp (stp acc (a, a)) _ = _
    rw [e1]
    split
    · rename_i h2
      have := run_up _ (a + 1) b l c rfl h2
      rw [show a + 1 - 1 = a by omega] at this
      exact this
    · have e : a = b := by omega
      subst e
      rfl
  · rw [rng_dn (by omega), List.map_cons, List.foldl_cons]
    show List.foldl stp (stp acc (a, a)) _ = _
    rw [e1]
    have := run_dn _ (a - 1) b l c rfl (by omega)
    rw [show a - 1 + 1 = a by omega] at this
    exact this
theorem tid_acc (l : List P) : ∀ acc, ((reads l).map diag).foldl stp acc = l.foldl stp acc := by
  induction l with
  | nil => intro acc; rfl
  | cons p l ih =>
    intro acc
    show ((rng p ++ reads l).map diag).foldl stp acc = _
    rw [List.map_append, List.foldl_append, run_step, ih]
    rfl
/-- address by address is scan by scan -/
theorem tid_reads (l : List P) : tid ((reads l).map diag) = tid l := tid_acc l []
/-! ### turned -/
def swp (p : P) : P := (p.2, p.1)
def rev (l : List P) : List P := (l.map swp).reverse
theorem rng_map_up (a b : Int) (h : a ≤ b) : rng (a, b) = (List.range (b - a + 1).toNat).map fun k => a + (k : Nat) := by unfold rng; rw [if_pos (by simpa using h)]
theorem rng_rev (p : P) : rng (swp p) = (rng p).reverse := by
  obtain ⟨a, b⟩ := p
  show rng (b, a) = _
  have key : ∀ (n : Nat) (a b : Int), (b - a).toNat = n → a ≤ b → rng (b, a) = (rng (a, b)).reverse := by
    intro n
    induction n with
    | zero =>
      intro a b hn h
      have e : a = b := by omega
      subst e
      rw [rng_one]
      rfl
    | succ n ih =>
      intro a b hn h
      rw [rng_dn (by omega), ih a (b - 1) (by omega) (by omega), rng_map_up a b h, rng_map_up a (b - 1) (by omega)]
      rw [show (b - a + 1).toNat = (b - 1 - a + 1).toNat + 1 by omega, List.range_succ, List.map_append, List.reverse_append]
      simp
      omega
  by_cases h : a ≤ b
  · exact key _ a b rfl h
  · rw [key _ b a rfl (by omega), List.reverse_reverse]
theorem reads_rev (l : List P) : reads (rev l) = (reads l).reverse := by
  induction l with
  | nil => rfl
  | cons p l ih =>
    show reads (((swp p) :: l.map swp).reverse) = (rng p ++ reads l).reverse
    rw [List.reverse_cons, List.reverse_append, ← ih, ← rng_rev]
    unfold reads rev
    rw [List.flatMap_append]
    simp
/-- a scan put ahead -/
def cns (p : P) (l : List P) : List P := match l with
  | q :: r => if touch p.2 q.1 = true then (p.1, q.2) :: r else p :: q :: r
  | [] => [p]
theorem touch_comm (a b : Int) : touch a b = touch b a := by
  rw [Bool.eq_iff_iff, touch_iff, touch_iff]
  omega
theorem stp_cons (p : P) (l : List P) (q : P) (h : l ≠ []) : stp (p :: l) q = p :: stp l q := by
  obtain ⟨m, x, e⟩ := (List.eq_nil_or_concat l).resolve_left h
  rw [List.concat_eq_append] at e
  subst e
  rw [show p :: (m ++ [x]) = (p :: m) ++ [x] from rfl, stp_snoc, stp_snoc]
  split <;> rfl
theorem cns_stp (p : P) (l : List P) (q : P) (h : l ≠ []) : stp (cns p l) q = cns p (stp l q) := by
  cases l with
  | nil => exact absurd rfl h
  | cons x r =>
    cases r with
    | nil =>
      show stp (if touch p.2 x.1 = true then [(p.1, x.2)] else [p, x]) q = cns p (stp ([] ++ [x]) q)
      rw [stp_snoc]
      by_cases h1 : touch p.2 x.1 = true
      · rw [if_pos h1]
        rw [show [(p.1, x.2)] = [] ++ [(p.1, x.2)] from rfl, stp_snoc]
        by_cases h2 : touch x.2 q.1 = true
        · rw [if_pos h2, if_pos h2]
          show _ = (if touch p.2 x.1 = true then _ else _)
          rw [if_pos h1]
          rfl
        · rw [if_neg h2, if_neg h2]
          show _ = (if touch p.2 x.1 = true then _ else _)
          rw [if_pos h1]
          rfl
      · rw [if_neg h1]
        rw [show [p, x] = [p] ++ [x] from rfl, stp_snoc]
        by_cases h2 : touch x.2 q.1 = true
        · rw [if_pos h2, if_pos h2]
          show _ = (if touch p.2 x.1 = true then _ else _)
          rw [if_neg h1]
          rfl
        · rw [if_neg h2, if_neg h2]
          show _ = (if touch p.2 x.1 = true then _ else _)
          rw [if_neg h1]
          rfl
    | cons y r =>
      rw [stp_cons x (y :: r) q (by simp)]
      show stp (if touch p.2 x.1 = true then (p.1, x.2) :: y :: r else p :: x :: y :: r) q = (if touch p.2 x.1 = true then (p.1, x.2) :: stp (y :: r) q else p :: x :: stp (y :: r) q)
      split
      · rw [stp_cons _ _ _ (by simp)]
      · rw [stp_cons _ _ _ (by simp), stp_cons _ _ _ (by simp)]
theorem fold_cns (p : P) : ∀ (l : List P) (acc : List P), acc ≠ [] → l.foldl stp (cns p acc) = cns p (l.foldl stp acc)
  | [], _, _ => rfl
  | q :: l, acc, h => by
    rw [List.foldl_cons, List.foldl_cons, cns_stp p acc q h, fold_cns p l _ (stp_ne _ _)]
theorem tid_cons (p : P) (l : List P) : tid (p :: l) = cns p (tid l) := by
  cases l with
  | nil => rfl
  | cons q l =>
    show List.foldl stp (stp [p] q) l = cns p (List.foldl stp [q] l)
    rw [← fold_cns p l [q] (by simp)]
    rfl
theorem tid_snoc (l : List P) (p : P) : tid (l ++ [p]) = stp (tid l) p := by
  unfold tid
  rw [List.foldl_append]
  rfl
theorem rev_cons (p : P) (l : List P) : rev (p :: l) = rev l ++ [swp p] := by simp [rev]
theorem rev_snoc (l : List P) (p : P) : rev (l ++ [p]) = swp p :: rev l := by simp [rev]
theorem stp_rev (p : P) (l : List P) : stp (rev l) (swp p) = rev (cns p l) := by
  cases l with
  | nil => rfl
  | cons q r =>
    rw [rev_cons, stp_snoc]
    show (if touch q.1 p.2 = true then _ else _) = rev (if touch p.2 q.1 = true then _ else _)
    rw [touch_comm]
    split
    · rw [rev_cons]
      rfl
    · rw [rev_cons, rev_cons, List.append_assoc]
      rfl
/-- the tidy list of the turned one -/
theorem tid_rev (l : List P) : tid (rev l) = rev (tid l) := by
  induction l with
  | nil => rfl
  | cons p l ih => rw [rev_cons, tid_snoc, ih, stp_rev, tid_cons]
/-! ### valid lists -/
structure Valid (l : List P) : Prop where
  nn : ∀ p ∈ l, 0 ≤ p.1 ∧ 0 ≤ p.2
  nd : (reads l).Nodup
theorem mem_rng {p : P} {a : Int} : a ∈ rng p ↔ (p.1 ≤ a ∧ a ≤ p.2) ∨ (p.2 ≤ a ∧ a ≤ p.1) := by
  obtain ⟨x, y⟩ := p
  unfold rng
  split
  · rename_i h
    simp only at h
    simp only [List.mem_map, List.mem_range]
    constructor
    · rintro ⟨k, hk, rfl⟩
      left
      omega
    · intro h2
      refine ⟨(a - x).toNat, by omega, by omega⟩
  · rename_i h
    simp only at h
    simp only [List.mem_map, List.mem_range]
    constructor
    · rintro ⟨k, hk, rfl⟩
      right
      omega
    · intro h2
      refine ⟨(x - a).toNat, by omega, by omega⟩
theorem rng_nodup (p : P) : (rng p).Nodup := by
  unfold rng
  split
  · exact List.Pairwise.map _ (fun i j h => by omega) List.nodup_range
  · exact List.Pairwise.map _ (fun i j h => by omega) List.nodup_range
theorem mem_reads {l : List P} {a : Int} : a ∈ reads l ↔ ∃ p ∈ l, a ∈ rng p := by simp [reads]
/-- reads of what is joined -/
theorem rng_join {a b c d : Int} (ht : touch b c = true) (hd : ∀ x, x ∈ rng (a, b) → x ∉ rng (c, d)) : rng (a, d) = rng (a, b) ++ rng (c, d) := by
  have hb : b ∈ rng (a, b) := mem_rng.mpr (by simp; omega)
  have nb := hd b hb
  have ha : a ∈ rng (a, b) := mem_rng.mpr (by simp; omega)
  have hc : c ∈ rng (c, d) := mem_rng.mpr (by simp; omega)
  have na : c ∉ rng (a, b) := fun z => hd c z hc
  have nb : ¬((c ≤ b ∧ b ≤ d) ∨ (d ≤ b ∧ b ≤ c)) := fun z => nb (mem_rng.mpr z)
  have na : ¬((a ≤ c ∧ c ≤ b) ∨ (b ≤ c ∧ c ≤ a)) := fun z => na (mem_rng.mpr z)
  rcases touch_iff.mp ht with e | e
  · -- going down: b = c + 1
    subst e
    have h1 : c + 1 ≤ a := by omega
    have h2 : d ≤ c := by omega
    have key : ∀ (n : Nat) (a : Int), (a - (c + 1)).toNat = n → c + 1 ≤ a → rng (a, d) = rng (a, c + 1) ++ rng (c, d) := by
      intro n
      induction n with
      | zero =>
        intro a hn h
        have e : a = c + 1 := by omega
        subst e
        rw [rng_one, rng_dn (by omega), show c + 1 - 1 = c by omega]
        rfl
      | succ n ih =>
        intro a hn h
        rw [rng_dn (by omega), ih (a - 1) (by omega) (by omega), rng_dn (a := a) (b := c + 1) (by omega)]
        rfl
    exact key _ a rfl h1
  · subst e
    have h1 : a ≤ b := by omega
    have h2 : b + 1 ≤ d := by omega
    have key : ∀ (n : Nat) (a : Int), (b - a).toNat = n → a ≤ b → rng (a, d) = rng (a, b) ++ rng (b + 1, d) := by
      intro n
      induction n with
      | zero =>
        intro a hn h
        have e : a = b := by omega
        subst e
        rw [rng_one, rng_up (by omega), if_pos (by omega)]
        rfl
      | succ n ih =>
        intro a hn h
        rw [rng_up (by omega), if_pos (by omega), ih (a + 1) (by omega) (by omega), rng_up (a := a) (b := b) (by omega), if_pos (by omega)]
        rfl
    exact key _ a rfl h1
theorem reads_app (l m : List P) : reads (l ++ m) = reads l ++ reads m := by simp [reads]
theorem reads_one (p : P) : reads [p] = rng p := by simp [reads]
theorem reads_stp (acc : List P) (p : P) (h : (reads acc ++ rng p).Nodup) : reads (stp acc p) = reads acc ++ rng p := by
  rcases List.eq_nil_or_concat acc with e | ⟨l, q, e⟩
  · subst e
    rw [stp_nil, reads_one]
    rfl
  · rw [List.concat_eq_append] at e
    subst e
    rw [stp_snoc]
    split
    · rename_i ht
      rw [reads_app, reads_app, reads_one, reads_one, List.append_assoc]
      congr 1
      obtain ⟨a, b⟩ := q
      obtain ⟨c, d⟩ := p
      refine rng_join ht fun x hx hy => ?_
      rw [reads_app, reads_one] at h
      have := (List.nodup_append.mp h).2.2 x (List.mem_append_right _ hx) x hy
      exact this rfl
    · rw [show l ++ [q, p] = (l ++ [q]) ++ [p] by simp, reads_app, reads_one]
theorem reads_fold : ∀ (l acc : List P), (reads acc ++ reads l).Nodup → reads (l.foldl stp acc) = reads acc ++ reads l
  | [], acc, _ => by simp [reads]
  | p :: l, acc, h => by
    have e : reads (p :: l) = rng p ++ reads l := rfl
    rw [e, ← List.append_assoc] at h
    have h1 : (reads acc ++ rng p).Nodup := (List.nodup_append.mp h).1
    rw [List.foldl_cons, reads_fold l (stp acc p) (by rw [reads_stp _ _ h1]; exact h), reads_stp _ _ h1, e, List.append_assoc]
theorem reads_tid {l : List P} (h : (reads l).Nodup) : reads (tid l) = reads l := by
  exact reads_fold l [] h
theorem tid_tid {l : List P} (h : (reads l).Nodup) : tid (tid l) = tid l := by rw [← tid_reads (tid l), reads_tid h, tid_reads]
theorem end_mem (p : P) : p.1 ∈ rng p ∧ p.2 ∈ rng p := ⟨mem_rng.mpr (by omega), mem_rng.mpr (by omega)⟩
theorem Valid.all {l : List P} (h : Valid l) : ∀ a ∈ reads l, 0 ≤ a := fun a ha => by
  obtain ⟨p, hp, hr⟩ := mem_reads.mp ha
  obtain ⟨h1, h2⟩ := h.nn p hp
  rcases mem_rng.mp hr with ⟨h3, h4⟩ | ⟨h3, h4⟩ <;> omega
theorem Valid.tid {l : List P} (h : Valid l) : Valid (tid l) := by
  refine ⟨fun p hp => ?_, by rw [reads_tid h.nd]; exact h.nd⟩
  have m : ∀ a ∈ rng p, a ∈ reads l := fun a ha => by
    rw [← reads_tid h.nd]
    exact mem_reads.mpr ⟨p, hp, ha⟩
  exact ⟨h.all _ (m _ (end_mem p).1), h.all _ (m _ (end_mem p).2)⟩
theorem Valid.perm {l m : List P} (h : Valid l) (p : l.Perm m) : Valid m :=
  ⟨fun q hq => h.nn q (p.mem_iff.mpr hq), (p.flatMap_right rng).nodup_iff.mp h.nd⟩
theorem Valid.nil : Valid [] := ⟨fun p h => by simp at h, List.nodup_nil⟩
theorem rng_len (p : P) : ((rng p).length : Int) = dist p.2 p.1 + 1 := by
  obtain ⟨a, b⟩ := p
  unfold rng dist
  split
  · rename_i h
    simp only at h
    simp only [List.length_map, List.length_range]
    split <;> omega
  · rename_i h
    simp only at h
    simp only [List.length_map, List.length_range]
    split <;> omega
theorem reads_len (l : List P) : ((reads l).length : Int) = (l.map fun p => dist p.2 p.1 + 1).sum := by
  induction l with
  | nil => rfl
  | cons p l ih =>
    show ((rng p ++ reads l).length : Int) = _
    rw [List.length_append, List.map_cons, List.sum_cons, ← ih, ← rng_len]
    omega
/-! ### the tidy list by its begins -/
def z : P := (0, 0)
def tst (l : List P) (k : Nat) : Bool := k == 0 || !touch (l.getD (k - 1) z).2 (l.getD k z).1
def begs (l : List P) : List Nat := (List.range l.length).filter (tst l)
def prs : List Nat → Nat → List (Nat × Nat)
  | [], _ => []
  | [b], n => [(b, n)]
  | b :: c :: r, n => (b, c) :: prs (c :: r) n
theorem prs_zip : ∀ (bs : List Nat) (n : Nat), bs.zip (bs.drop 1 ++ [n]) = prs bs n
  | [], _ => rfl
  | [b], n => rfl
  | b :: c :: r, n => by
    have ih := prs_zip (c :: r) n
    show (b, c) :: (c :: r).zip (r ++ [n]) = (b, c) :: prs (c :: r) n
    rw [← ih]
    rfl
theorem prs_snoc : ∀ (bs : List Nat) (b n : Nat), prs (bs ++ [b]) n = prs bs b ++ [(b, n)]
  | [], _, _ => rfl
  | [c], b, n => rfl
  | c :: d :: r, b, n => by
    have ih := prs_snoc (d :: r) b n
    show (c, d) :: prs ((d :: r) ++ [b]) n = (c, d) :: prs (d :: r) b ++ [(b, n)]
    rw [ih]
    rfl
theorem prs_mem : ∀ (bs : List Nat) (n : Nat) (q : Nat × Nat), q ∈ prs bs n → q.1 ∈ bs ∧ (q.2 ∈ bs ∨ q.2 = n)
  | [], _, q, h => by simp [prs] at h
  | [b], n, q, h => by
    simp [prs] at h
    subst h
    simp
  | b :: c :: r, n, q, h => by
    rcases List.mem_cons.mp h with e | h
    · subst e
      simp
    · obtain ⟨h1, h2⟩ := prs_mem (c :: r) n q h
      exact ⟨List.mem_cons_of_mem _ h1, h2.imp (List.mem_cons_of_mem _) fun e => e⟩
def pick (l : List P) (q : Nat × Nat) : P := ((l.getD q.1 z).1, (l.getD (q.2 - 1) z).2)
theorem begs_snoc (l : List P) (p : P) : begs (l ++ [p]) = begs l ++ if tst (l ++ [p]) l.length = true then [l.length] else [] := by
  unfold begs
  rw [List.length_append, List.length_singleton, List.range_succ, List.filter_append]
  congr 1
  · apply List.filter_congr
    intro k hk
    rw [List.mem_range] at hk
    unfold tst
    rw [List.getD_eq_getElem?_getD, List.getD_eq_getElem?_getD, List.getD_eq_getElem?_getD, List.getD_eq_getElem?_getD, List.getElem?_append_left (by omega), List.getElem?_append_left (by omega)]
  · by_cases h : tst (l ++ [p]) l.length = true
    · rw [if_pos h, List.filter_cons_of_pos h]
      rfl
    · rw [if_neg h, List.filter_cons_of_neg h]
      rfl
theorem begs_lt {l : List P} {b : Nat} (h : b ∈ begs l) : b < l.length := by
  unfold begs at h
  exact List.mem_range.mp (List.mem_filter.mp h).1
theorem begs_ne {l : List P} (h : l ≠ []) : begs l ≠ [] := fun e => by
  have m : 0 ∈ begs l := by
    unfold begs
    rw [List.mem_filter, List.mem_range]
    exact ⟨List.length_pos_iff.mpr h, rfl⟩
  rw [e] at m
  simp at m
theorem pick_app {l : List P} {p : P} {q : Nat × Nat} (h1 : q.1 < l.length) (h2 : q.2 - 1 < l.length) : pick (l ++ [p]) q = pick l q := by
  unfold pick
  rw [List.getD_eq_getElem?_getD, List.getD_eq_getElem?_getD, List.getD_eq_getElem?_getD, List.getD_eq_getElem?_getD, List.getElem?_append_left h1, List.getElem?_append_left h2]
theorem getD_last (l : List P) (p : P) : (l ++ [p]).getD l.length z = p := by simp [List.getD_eq_getElem?_getD]
theorem snoc_ind {α : Type} {C : List α → Prop} (h0 : C []) (h1 : ∀ l a, C l → C (l ++ [a])) (l : List α) : C l := by
  have key : ∀ m : List α, C m.reverse := fun m => by
    induction m with
    | nil => exact h0
    | cons a m ih =>
      rw [List.reverse_cons]
      exact h1 _ _ ih
  have := key l.reverse
  rwa [List.reverse_reverse] at this
theorem begs_tid (l : List P) : (prs (begs l) l.length).map (pick l) = tid l ∧ (∀ q, (tid l).getLast? = some q → q.2 = (l.getD (l.length - 1) z).2) := by
  induction l using snoc_ind with
  | h0 => exact ⟨rfl, fun q e => by simp [tid] at e⟩
  | h1 l p ih =>
    obtain ⟨ih, il⟩ := ih
    rw [tid_snoc, begs_snoc, List.length_append, List.length_singleton]
    rcases List.eq_nil_or_concat l with e | ⟨m, x, e⟩
    · subst e
      refine ⟨rfl, fun q e => ?_⟩
      have e : ([p] : List P).getLast? = some q := e
      simp at e
      subst e
      rfl
    · have hne : l ≠ [] := by subst e; simp
      have hpos : 0 < l.length := List.length_pos_iff.mpr hne
      have tn : tst (l ++ [p]) l.length = !touch (l.getD (l.length - 1) z).2 p.1 := by
        unfold tst
        rw [getD_last, List.getD_eq_getElem?_getD, List.getElem?_append_left (by omega), ← List.getD_eq_getElem?_getD]
        have : (l.length == 0) = false := by simp; exact hne
        rw [this]
        rfl
      obtain ⟨bs, b, eb⟩ := (List.eq_nil_or_concat (begs l)).resolve_left (begs_ne hne)
      rw [List.concat_eq_append] at eb
      have inb : ∀ c ∈ bs ++ [b], c < l.length := fun c hc => begs_lt (by rw [eb]; exact hc)
      have lt : tid l = (prs bs b).map (pick l) ++ [((l.getD b z).1, (l.getD (l.length - 1) z).2)] := by
        rw [← ih, eb, prs_snoc, List.map_append]
        rfl
      have old : (prs bs b).map (pick (l ++ [p])) = (prs bs b).map (pick l) := by
        apply List.map_congr_left
        intro q hq
        obtain ⟨h1, h2⟩ := prs_mem _ _ _ hq
        have h1' := inb q.1 (List.mem_append_left _ h1)
        refine pick_app h1' ?_
        rcases h2 with h2 | h2
        · have := inb q.2 (List.mem_append_left _ h2)
          omega
        · have := inb b (by simp)
          omega
      have hb := inb b (by simp)
      have gb : (l ++ [p]).getD b z = l.getD b z := by
        rw [List.getD_eq_getElem?_getD, List.getElem?_append_left hb, ← List.getD_eq_getElem?_getD]
      by_cases ht : touch (l.getD (l.length - 1) z).2 p.1 = true
      · have tf : ¬ tst (l ++ [p]) l.length = true := by rw [tn, ht]; simp
        rw [if_neg tf, List.append_nil, eb, prs_snoc, List.map_append, old, lt, stp_snoc, if_pos ht]
        refine ⟨?_, fun q e => ?_⟩
        · congr 1
          show [pick (l ++ [p]) (b, l.length + 1)] = _
          unfold pick
          simp only [Nat.add_sub_cancel]
          rw [getD_last, gb]
        · rw [List.getLast?_concat] at e
          cases e
          simp only [Nat.add_sub_cancel]
          rw [getD_last]
      · have tt : tst (l ++ [p]) l.length = true := by rw [tn]; simpa using ht
        rw [if_pos tt, prs_snoc, List.map_append, eb, prs_snoc, List.map_append, old, lt, stp_snoc, if_neg ht]
        refine ⟨?_, fun q e => ?_⟩
        · have e1 : pick (l ++ [p]) (b, l.length) = ((l.getD b z).1, (l.getD (l.length - 1) z).2) := pick_app hb (by show l.length - 1 < l.length; omega)
          have e2 : pick (l ++ [p]) (l.length, l.length + 1) = p := by
            unfold pick
            simp only [Nat.add_sub_cancel]
            rw [getD_last]
          simp only [List.map_cons, List.map_nil, e1, e2, List.append_assoc]
          rfl
        · rw [show ∀ (A : List P) (u v : P), A ++ [u, v] = (A ++ [u]) ++ [v] from fun A u v => by simp, List.getLast?_concat] at e
          cases e
          simp only [Nat.add_sub_cancel]
          rw [getD_last]
end MS
end
section
set_option maxHeartbeats 4000000
/-! DLn: data of numbers, pairs, lists of pairs; the laws' bag of draws. -/
namespace DL
open PySem PySem.Spec L2
open PyProof.Rows hiding St
section
variable {S S1 : Cells}
theorem dEq_int {i j : Int} : dEq (.int i) (.int j) S = some (.bl (decide (i = j))) := by
  show some (D.bl (i == j)) = _
  have : (i == j) = decide (i = j) := by rw [Bool.eq_iff_iff]; simp
  rw [this]
theorem dNe_int {i j : Int} : dNe (.int i) (.int j) S = some (.bl (!decide (i = j))) := by
  show some (D.bl (!(i == j))) = _
  have : (i == j) = decide (i = j) := by rw [Bool.eq_iff_iff]; simp
  rw [this]
def pyP (p : MS.P) : PyData := .tuple [.int p.1, .int p.2]
theorem toPyP (l : List MS.P) : toPyL (l.map encP) = some (l.map pyP) := by
  induction l with
  | nil => rfl
  | cons p l ih =>
    show (match toPy (encP p), toPyL (l.map encP) with
      | some e, some es => some (e :: es)
      | _, _ => none) = _
    rw [ih]
    rfl
theorem resv_ps (n0 : Nat) (l : List MS.P) : resvL n0 S (l.map encP) = some (l.map encP) := by
  induction l with
  | nil => rfl
  | cons p l ih =>
    show (match resv n0 S (encP p), resvL n0 S (l.map encP) with
      | some d', some ds' => some (d' :: ds')
      | _, _ => none) = _
    rw [ih]
    rfl
theorem flat_encP (p : MS.P) : (encP p).flat = true := by
  show (D.tup [.int p.1, .int p.2]).flat = true
  rw [flat_tup]
  simp [flatL]
theorem flatL_ps (l : List MS.P) : flatL (l.map encP) = true := by
  unfold flatL
  rw [List.all_map, List.all_eq_true]
  exact fun p _ => flat_encP p
theorem flat_ps (l : List MS.P) : (D.lst (l.map encP)).flat = true := by rw [flat_lst, flatL_ps]
theorem lay_ps (l : List MS.P) : PyData.canLayAll0 (l.map pyP) = true := by
  induction l with
  | nil => rfl
  | cons p l ih =>
    show (PyData.canLay0 (pyP p) && PyData.canLayAll0 (l.map pyP)) = true
    rw [ih]
    rfl
theorem depth_ps (l : List MS.P) : PyData.depthAll (l.map pyP) ≤ 1 := by
  induction l with
  | nil => exact Nat.zero_le _
  | cons p l ih =>
    show max (PyData.depth (pyP p)) (PyData.depthAll (l.map pyP)) ≤ 1
    have : PyData.depth (pyP p) = 1 := rfl
    omega
theorem shaped_ps (l : List MS.P) : SeqAt.shaped (.list (l.map pyP)) = true := by
  show (PyData.canLayAll0 (l.map pyP) && decide (PyData.depthAll (l.map pyP) + 1 ≤ 64)) = true
  rw [lay_ps, decide_eq_true (by have := depth_ps l; omega)]
  rfl
theorem eqv_ps : ∀ (l m : List MS.P), PyData.eqvAll (l.map pyP) (m.map pyP) = decide (l = m)
  | [], [] => rfl
  | [], _ :: _ => rfl
  | _ :: _, [] => rfl
  | p :: l, q :: m => by
    show (((p.1 == q.1) && ((p.2 == q.2) && true)) && PyData.eqvAll (l.map pyP) (m.map pyP)) = _
    rw [eqv_ps l m, Bool.eq_iff_iff]
    obtain ⟨a, b⟩ := p
    obtain ⟨c, d⟩ := q
    simp
theorem vw_ps (l : List MS.P) : vw S (.lst (l.map encP)) = some (.list (l.map pyP)) := by
  unfold vw
  show (match resvL 0 S (l.map encP) with
    | some l' => some (D.lst l')
    | none => none).bind toPy = _
  rw [resv_ps]
  show (match toPyL (l.map encP) with
    | some m => some (PyData.list m)
    | none => none) = _
  rw [toPyP]
theorem eqP_of {d1 d2 : D} {p q : PyData} (h1 : vw S d1 = some p) (h2 : vw S d2 = some q) (s1 : SeqAt.shaped p = true) (s2 : SeqAt.shaped q = true) : eqP d1 d2 S = some (PyData.eqv p q) := by
  unfold eqP
  rw [h1, h2]
  exact if_pos ⟨s1, s2⟩
theorem dEq_ps (l m : List MS.P) : dEq (.lst (l.map encP)) (.lst (m.map encP)) S = some (.bl (decide (l = m))) := by
  show (eqP _ _ S).map D.bl = _
  rw [eqP_of (vw_ps l) (vw_ps m) (shaped_ps l) (shaped_ps m)]
  show some (D.bl (PyData.eqvAll _ _)) = _
  rw [eqv_ps]
theorem vw_ref {n : Nat} {b : Bool} {l : List MS.P} (h : S[n]? = some ⟨b, .lst (l.map encP)⟩) : vw S (.ref n) = some (.list (l.map pyP)) := by
  unfold vw resv
  rw [if_neg (by omega), h]
  show (match toPyL (l.map encP) with
    | some m => some (PyData.list m)
    | none => none) = _
  rw [toPyP]
theorem dNe_nil {n : Nat} {b : Bool} {l : List MS.P} (h : S[n]? = some ⟨b, .lst (l.map encP)⟩) : dNe (.ref n) (.lst []) S = some (.bl (!l.isEmpty)) := by
  show (eqP _ (.lst (([] : List MS.P).map encP)) S).map (fun b => D.bl (!b)) = _
  rw [eqP_of (vw_ref h) (vw_ps []) (shaped_ps l) (shaped_ps [])]
  show some (D.bl (!PyData.eqvAll _ _)) = _
  rw [eqv_ps]
  cases l <;> rfl
/-! lists and cells by place -/
theorem seqL_ref {n : Nat} {b : Bool} {l : List D} (h : S[n]? = some ⟨b, .lst l⟩) : seqL S (.ref n) = some l := by
  show (match S[n]? with
    | some ⟨_, .lst l⟩ => some l
    | _ => none) = _
  rw [h]
theorem ix_ref {n : Nat} {b : Bool} {l : List D} {k : Int} {d : D} (h : S[n]? = some ⟨b, .lst l⟩) (e : atI l k = some d) : ixD (.ref n) (.int k) S = some d := by
  show (seqL S (.ref n)).bind (fun l => atI l k) = _
  rw [seqL_ref h]
  exact e
theorem len_ref {n : Nat} {b : Bool} {l : List D} (h : S[n]? = some ⟨b, .lst l⟩) : dLen [.ref n] S = some (.int l.length) := by
  show (seqL S (.ref n)).map (fun l => D.int l.length) = _
  rw [seqL_ref h]
  rfl
theorem live_ref {n : Nat} {l : List D} (h : S[n]? = some ⟨true, .lst l⟩) : liveL (.ref n) S = some (n, l) := by
  show (match S[n]? with
    | some ⟨true, .lst l⟩ => some (n, l)
    | _ => none) = _
  rw [h]
theorem set_ref {n j : Nat} {l : List D} {k : Int} {y : D} (h : S[n]? = some ⟨true, .lst l⟩) (e : ixN l.length k = some j) (hf : y.flat = true) : setAtD (.ref n) (.int k) y S = some (S.set n ⟨true, .lst (l.set j y)⟩) := by
  unfold setAtD
  rw [live_ref h]
  show (match ixN l.length k with
    | some j => if y.flat = true then some (S.set n ⟨true, .lst (l.set j y)⟩) else none
    | none => none) = _
  rw [e]
  exact if_pos hf
theorem ty_ref {n : Nat} {b : Bool} {l : List D} (h : S[n]? = some ⟨b, .lst l⟩) : isTy "list" (.ref n) S = some () := by
  show (if "list" = "list" ∧ (seqL S (.ref n)).isSome = true then some () else none) = _
  rw [seqL_ref h]
  exact if_pos ⟨rfl, rfl⟩
theorem app_ref {n : Nat} {l : List D} {y : D} (h : S[n]? = some ⟨true, .lst l⟩) (hf : y.flat = true) (hz : l.length < sizeLine) : mAppend (.ref n) [y] S = some (.non, S.set n ⟨true, .lst (l ++ [y])⟩) := by
  unfold mAppend
  rw [live_ref h]
  exact if_pos ⟨hf, hz⟩
theorem get_set {n : Nat} {c c' : Cell} (h : S[n]? = some c) : (S.set n c')[n]? = some c' := by
  rw [List.getElem?_set_self (List.getElem?_eq_some_iff.mp h).1]
theorem get_set_ne {n m : Nat} {c' : Cell} (h : n ≠ m) : (S.set n c')[m]? = S[m]? := List.getElem?_set_ne h
theorem okMul_of {i j : Int} (a b : Nat) (hi : i.natAbs < 2 ^ a) (hj : j.natAbs < 2 ^ b) (h : a + b ≤ 999999) (ha : 0 < a := by decide) (hb : 0 < b := by decide) : okMul i j = true := by
  unfold okMul
  have h1 := PySem.Flt.log2_lt_of ha hi
  have h2 := PySem.Flt.log2_lt_of hb hj
  exact decide_eq_true (by omega)
theorem dMul_ok {i j : Int} (h : okMul i j = true) : dMul (.int i) (.int j) S = some (.int (i * j)) := if_pos h
theorem dDiv_ok {i j : Int} (h : 0 < j) (h2 : j.natAbs < 2 ^ 8999) : dDiv (.int i) (.int j) S = some (.int (i / j)) := if_pos ⟨h, Nat.lt_of_lt_of_le (PySem.Flt.log2_lt_of (by decide) h2) (by decide)⟩
theorem dMod_ok {i j : Int} (h : 0 < j) : dMod (.int i) (.int j) S = some (.int (i % j)) := if_pos h
/-! ranges -/
theorem range1_ok {n : Nat} (h : n ≤ sizeLine) : range1 [.int (n : Int)] = some ((List.range n).map fun i => D.int (i : Nat)) := by
  show rangeD 0 (n : Int) = _
  unfold rangeD
  have hz : sizeLine = 16777216 := by decide
  rw [if_pos ⟨⟨by omega, by omega, by omega, by omega⟩, by omega⟩]
  simp
theorem range_down {n : Nat} : List.range (n + 1) = List.range n ++ [n] := List.range_succ
theorem rangeA_rng {p : MS.P} {s : Int} (h0 : 0 ≤ p.1 ∧ 0 ≤ p.2) (h1 : p.1 < 1000000 ∧ p.2 < 1000000) (hs : s = if p.1 ≤ p.2 then 1 else -1) : rangeA [.int p.1, .int (p.2 + s), .int s] = some ((MS.rng p).map .int) := by
  obtain ⟨a, b⟩ := p
  simp only at h0 h1 hs ⊢
  show rangeC a (b + s) s = _
  have hz : sizeLine = 16777216 := by decide
  by_cases h : a ≤ b
  · rw [if_pos h] at hs
    subst hs
    have sz : Builtin.Range.rangeSize a (b + 1) 1 = b - a + 1 := by
      unfold Builtin.Range.rangeSize
      rw [if_pos (by omega), if_pos (by omega), Int.ediv_one]
      omega
    have ok : okR a (b + 1) 1 = true := by
      unfold okR Builtin.Range.small
      rw [sz]
      have f : ∀ i : Int, 0 ≤ i → i < 2000000 → Builtin.Range.rangeFitsLong i = true := fun i h1 h2 => by
        unfold Builtin.Range.rangeFitsLong
        rw [decide_eq_true (by omega), decide_eq_true (by omega)]
        rfl
      rw [f a (by omega) (by omega), f (b + 1) (by omega) (by omega), f 1 (by omega) (by omega), f (b - a + 1) (by omega) (by omega)]
      simp only [f (b + 1 + (1 - 1)) (by omega) (by omega)]
      simp
      omega
    unfold rangeC
    rw [if_pos ok, sz]
    unfold MS.rng
    rw [if_pos (by simpa using h)]
    simp
  · rw [if_neg h] at hs
    subst hs
    have sz : Builtin.Range.rangeSize a (b + -1) (-1) = a - b + 1 := by
      unfold Builtin.Range.rangeSize
      rw [if_neg (by omega), if_pos (by omega)]
      simp
      omega
    have ok : okR a (b + -1) (-1) = true := by
      unfold okR Builtin.Range.small
      rw [sz]
      have f : ∀ i : Int, -10 ≤ i → i < 2000000 → Builtin.Range.rangeFitsLong i = true := fun i h1 h2 => by
        unfold Builtin.Range.rangeFitsLong
        rw [decide_eq_true (by omega), decide_eq_true (by omega)]
        rfl
      rw [f a (by omega) (by omega), f (b + -1) (by omega) (by omega), f (-1) (by omega) (by omega), f (a - b + 1) (by omega) (by omega)]
      simp only [f (b + -1 + (-1 + 1)) (by omega) (by omega)]
      simp
      omega
    unfold rangeC
    rw [if_pos ok, sz]
    unfold MS.rng
    rw [if_neg (by simpa using h)]
    simp only [List.map_map]
    congr 1
    apply List.map_congr_left
    intro k _
    show D.int (a + (k : Int) * -1) = D.int (a - (k : Int))
    congr 1
    omega
/-! sorted pairs, min, max -/
theorem sortD_ps (ps : List MS.P) : sortD [.lst (ps.map encP)] S = some ((sortP ps).map encP) := by
  unfold sortD
  show (match ints? (ps.map encP) with
    | some ns => some ((sortI ns).map D.int)
    | none => match pairs? (ps.map encP) with
      | some ps => some ((sortP ps).map encP)
      | none => none) = _
  cases ps with
  | nil => simp [ints?, sortI, sortP]
  | cons p ps =>
    show (match pairs? ((p :: ps).map encP) with
      | some ps => some ((sortP ps).map encP)
      | none => none) = _
    rw [pairs?_map]
theorem all_true {γ : Type} (l : List γ) : dAll [.lst (l.map fun _ => D.bl true)] S = some (.bl true) := by
  unfold dAll
  show ((bls? (l.map fun _ => D.bl true)).map fun bs => D.bl (bs.all id)) = _
  have e : (l.map fun _ => D.bl true) = (List.replicate l.length true).map D.bl := by simp [List.map_const']
  rw [e, bls?_map]
  simp
theorem sum_ints (ns : List Int) : dSum [.lst (ns.map .int)] S = some (.int ns.sum) := by
  unfold dSum
  show ((ints? (ns.map .int)).map fun ns => D.int ns.sum) = _
  rw [ints?_map]
  rfl
theorem itR1_ok {a : M (List D)} {l items : List D} (h1 : a S = .ok l S1) (h2 : range1 l = some items) : itR1 a S = .ok items S1 := bd_ok h1 (op_ok h2)
theorem itZ_ok {a : M (List D)} {x y : List D} (h1 : a S = .ok [.lst x, .lst y] S1) : itZ a S = .ok (pairsD x y) S1 := bd_ok h1 (op_ok rfl)
theorem lrg_ok {a : M (List D)} {l items : List D} (h1 : a S = .ok l S1) (h2 : rangeA l = some items) : lrgL a S = .ok items S1 := bd_ok h1 (op_ok h2)
theorem dLen_map {γ : Type} {f : γ → D} (l : List γ) : dLen [.lst (l.map f)] S = some (.int (l.length : Nat)) := by
  show some (D.int ((l.map f).length : Nat)) = _
  rw [List.length_map]
theorem dAdd_lst {a b : List D} (h : a.length + b.length ≤ sizeLine) : dAdd (.lst a) (.lst b) S = some (.lst (a ++ b)) := by
  show (catL (.lst a) (.lst b) S).map D.lst = _
  unfold catL
  show (if a.length + b.length ≤ sizeLine then some (a ++ b) else none).map D.lst = _
  rw [if_pos h]
  rfl
theorem cut1 (xs : List D) : cutD xs (some 1) none = xs.drop 1 := by
  unfold cutD
  rw [show HT.sIx xs.length 0 (some 1) = min 1 xs.length from HT.sIx_nat xs.length 0 1, HT.sIx_none]
  cases xs with
  | nil => rfl
  | cons x r =>
    rw [show min 1 (x :: r).length = 1 by
      rw [List.length_cons]
      omega]
    show (List.take ((x :: r).length - 1) r) = r
    rw [List.length_cons, Nat.add_sub_cancel]
    exact List.take_length
theorem ix_lst {l : List D} {k : Int} {j : Nat} {d : D} (hk : k = (j : Nat)) (e : l[j]? = some d) : ixD (.lst l) (.int k) S = some d := by
  show atI l k = _
  subst hk
  exact atI_nat e
theorem ix_ps {l : List MS.P} {k : Int} {j : Nat} {p : MS.P} (hk : k = (j : Nat)) (e : l[j]? = some p) : ixD (.lst (l.map encP)) (.int k) S = some (encP p) := ix_lst hk (by rw [List.getElem?_map, e]; rfl)
theorem pairsD_map {γ δ : Type} {f : γ → D} {g : δ → D} (a : List γ) (b : List δ) : pairsD (a.map f) (b.map g) = (a.zip b).map fun q => .tup [f q.1, g q.2] := by
  unfold pairsD
  rw [List.zip_map, List.map_map]
  rfl
theorem set_same {n : Nat} {c : Cell} (h : S[n]? = some c) : S.set n c = S := by
  apply List.ext_getElem?
  intro i
  by_cases e : n = i
  · subst e
    rw [get_set h, h]
  · rw [List.getElem?_set_ne e]
/-! ### what is written -/
def logOk (i : Int) : Prop := i.natAbs.log2 < 1920
theorem logOk_of {i : Int} {b : Nat} (h : i.natAbs < 2 ^ b) (h0 : 0 < b := by decide) (h1 : b ≤ 1920 := by decide) : logOk i := Nat.lt_of_lt_of_le (PySem.Flt.log2_lt_of h0 h) h1
theorem listText_le (ts : List Str) : (listText ts).length ≤ 2 + piled ts := by
  rw [listText_eq_join, strLen_append, strLen_append]
  have e1 : (Str.ofString "[").length = 1 := by decide
  have e2 : (Str.ofString "]").length = 1 := by decide
  cases ts with
  | nil =>
    have : (Str.join ", " []).length = 0 := by decide +kernel
    omega
  | cons t ts =>
    have := join_length_add (t :: ts) (by simp)
    omega
theorem tupleText_le (ts : List Str) : (tupleText ts).length ≤ 3 + piled ts := by
  unfold tupleText
  rw [strLen_append, strLen_append]
  have e1 : (Str.ofString "(").length = 1 := by decide
  have e2 : (Str.ofString (if (ts.length == 1) = true then ",)" else ")")).length ≤ 2 := by split <;> decide
  cases ts with
  | nil =>
    have : (Str.join ", " []).length = 0 := by decide +kernel
    omega
  | cons t ts =>
    have := join_length_add (t :: ts) (by simp)
    omega
theorem shown_int_le {i : Int} (h : logOk i) : (PyData.int i).shown.length ≤ 1921 := by
  rw [PyData.shown_int]
  exact PyProof.Rows.int_text_len_1921 h
theorem shown_pyP_le {p : MS.P} (h : logOk p.1 ∧ logOk p.2) : (pyP p).shown.length ≤ 3849 := by
  show (tupleText (PyData.shownAll [.int p.1, .int p.2])).length ≤ 3849
  have a := shown_int_le h.1
  have b := shown_int_le h.2
  have := tupleText_le (PyData.shownAll [.int p.1, .int p.2])
  rw [PyData.shownAll_cons, PyData.shownAll_cons, PyData.shownAll_nil, piled_cons, piled_cons, piled_nil] at this
  rw [PyData.shownAll_cons, PyData.shownAll_cons, PyData.shownAll_nil]
  omega
theorem piled_ps (l : List MS.P) (h : ∀ p ∈ l, logOk p.1 ∧ logOk p.2) : piled (PyData.shownAll (l.map pyP)) ≤ 3851 * l.length := by
  induction l with
  | nil => exact Nat.le_refl _
  | cons p l ih =>
    rw [List.map_cons, PyData.shownAll_cons, piled_cons, List.length_cons]
    have := ih fun q hq => h q (List.mem_cons_of_mem _ hq)
    have := shown_pyP_le (h p List.mem_cons_self)
    omega
theorem shown_ps_le (l : List MS.P) (h : ∀ p ∈ l, logOk p.1 ∧ logOk p.2) : (PyData.list (l.map pyP)).shown.length ≤ 2 + 3851 * l.length := by
  show (listText (PyData.shownAll (l.map pyP))).length ≤ _
  have := listText_le (PyData.shownAll (l.map pyP))
  have := piled_ps l h
  omega
theorem showable_ps (l : List MS.P) (h : ∀ p ∈ l, logOk p.1 ∧ logOk p.2) : PyData.showableAll (l.map pyP) = true := by
  induction l with
  | nil => rfl
  | cons p l ih =>
    show ((decide (p.1.natAbs.log2 < 1920) && (decide (p.2.natAbs.log2 < 1920) && true)) && PyData.showableAll (l.map pyP)) = true
    rw [ih fun q hq => h q (List.mem_cons_of_mem _ hq), decide_eq_true (show p.1.natAbs.log2 < 1920 from (h p List.mem_cons_self).1), decide_eq_true (show p.2.natAbs.log2 < 1920 from (h p List.mem_cons_self).2)]
    rfl
theorem nodict_ps (l : List MS.P) : PyData.hasDictAll (l.map pyP) = false := by
  induction l with
  | nil => rfl
  | cons p l ih =>
    show ((false || (false || false)) || PyData.hasDictAll (l.map pyP)) = false
    rw [ih]
    rfl
theorem repr_list {d : D} {xs : List PyData} (h : vw S d = some (.list xs)) (hd : ∀ i, d ≠ .int i) (h1 : PyData.showableAll xs = true) (h2 : PyData.hasDictAll xs = false) (h3 : PyData.depthAll xs ≤ 59) (h4 : (PyData.list xs).shown.length ≤ sizeLine) : reprD [d] S = some (.str (PyData.list xs).shown) := by
  unfold reprD
  split
  · rename_i i e
    cases e
    exact absurd rfl (hd i)
  · rename_i e
    cases e
    cases h
  · rename_i d' _ _ e
    cases e
    rw [h]
    show (if PyData.showable (.list xs) = true ∧ PyData.hasDict (.list xs) = false ∧ PyData.depth (.list xs) ≤ 60 ∧ (PyData.list xs).shown.length ≤ sizeLine then some (D.str (PyData.list xs).shown) else none) = _
    exact if_pos ⟨h1, h2, by show PyData.depthAll xs + 1 ≤ 60; omega, h4⟩
  · rename_i e1 e2 e3
    exact absurd rfl (e3 d)
theorem repr_ps (l : List MS.P) (h : ∀ p ∈ l, logOk p.1 ∧ logOk p.2) (hz : l.length ≤ 4000) : reprD [.lst (l.map encP)] S = some (.str (PyData.list (l.map pyP)).shown) :=
  repr_list (vw_ps l) (fun i e => by cases e) (showable_ps l h) (nodict_ps l) (by have := depth_ps l; omega) (by have := shown_ps_le l h; have : sizeLine = 16777216 := by decide
                                                                                                                 omega)
end
end DL
end
section
set_option maxHeartbeats 4000000
/-! DLo: lists of numbers compared, searched; numbers written; places of addresses. -/
namespace DL
open PySem PySem.Spec L2
open PyProof.Rows hiding St
section
variable {S S1 : Cells}
theorem toPyI (l : List Int) : toPyL (l.map D.int) = some (l.map PyData.int) := by
  induction l with
  | nil => rfl
  | cons p l ih =>
    show (match toPy (.int p), toPyL (l.map D.int) with
      | some e, some es => some (e :: es)
      | _, _ => none) = _
    rw [ih]
    rfl
theorem flatL_is (l : List Int) : flatL (l.map D.int) = true := by
  unfold flatL
  rw [List.all_map, List.all_eq_true]
  exact fun p _ => by simp
theorem flat_is (l : List Int) : (D.lst (l.map D.int)).flat = true := by rw [flat_lst, flatL_is]
theorem lay_is (l : List Int) : PyData.canLayAll0 (l.map PyData.int) = true := by
  induction l with
  | nil => rfl
  | cons p l ih =>
    show (true && PyData.canLayAll0 (l.map PyData.int)) = true
    rw [ih]
    rfl
theorem depth_is (l : List Int) : PyData.depthAll (l.map PyData.int) = 0 := by
  induction l with
  | nil => rfl
  | cons p l ih =>
    show max 0 (PyData.depthAll (l.map PyData.int)) = 0
    rw [ih]
    rfl
theorem shaped_is (l : List Int) : SeqAt.shaped (.list (l.map PyData.int)) = true := by
  show (PyData.canLayAll0 (l.map PyData.int) && decide (PyData.depthAll (l.map PyData.int) + 1 ≤ 64)) = true
  rw [lay_is, depth_is]
  rfl
theorem eqv_is : ∀ (l m : List Int), PyData.eqvAll (l.map PyData.int) (m.map PyData.int) = decide (l = m)
  | [], [] => rfl
  | [], _ :: _ => rfl
  | _ :: _, [] => rfl
  | p :: l, q :: m => by
    show ((p == q) && PyData.eqvAll (l.map PyData.int) (m.map PyData.int)) = _
    rw [eqv_is l m, Bool.eq_iff_iff]
    simp
theorem vw_is (l : List Int) : vw S (.lst (l.map D.int)) = some (.list (l.map PyData.int)) := by
  unfold vw
  rw [resv_flat _ _ _ (flat_is l)]
  show (match toPyL (l.map D.int) with
    | some m => some (PyData.list m)
    | none => none) = _
  rw [toPyI]
theorem dNe_is (l m : List Int) : dNe (.lst (l.map .int)) (.lst (m.map .int)) S = some (.bl (!decide (l = m))) := by
  show (eqP _ _ S).map (fun b => D.bl (!b)) = _
  rw [eqP_of (vw_is l) (vw_is m) (shaped_is l) (shaped_is m)]
  show some (D.bl (!PyData.eqvAll _ _)) = _
  rw [eqv_is]
theorem inP_is (l : List Int) (a : Int) : inP (.int a) (.lst (l.map .int)) S = some (decide (a ∈ l)) := by
  unfold inP
  rw [vw_is]
  show (if SeqAt.shaped (.int a) = true ∧ SeqAt.shaped (.list (l.map PyData.int)) = true then some ((l.map PyData.int).any fun z => PyData.eqv z (.int a)) else none) = _
  rw [if_pos ⟨rfl, shaped_is l⟩, List.any_map]
  congr 1
  rw [Bool.eq_iff_iff]
  simp only [List.any_eq_true, Function.comp, decide_eq_true_eq]
  constructor
  · rintro ⟨x, hx, e⟩
    have e : (x == a) = true := e
    rw [beq_iff_eq] at e
    exact e ▸ hx
  · intro h
    exact ⟨a, h, by show (a == a) = true; simp⟩
theorem dIn_is (l : List Int) (a : Int) : dIn (.int a) (.lst (l.map .int)) S = some (.bl (decide (a ∈ l))) := by
  unfold dIn
  rw [inP_is]
  rfl
theorem dNotIn_is (l : List Int) (a : Int) : dNotIn (.int a) (.lst (l.map .int)) S = some (.bl (!decide (a ∈ l))) := by
  unfold dNotIn
  rw [inP_is]
  rfl
theorem mIndex_is {l : List Int} {a : Int} {j : Nat} (h : l.findIdx? (· == a) = some j) : mIndex (.lst (l.map .int)) [.int a] S = some (.int (j : Nat), S) := by
  unfold mIndex
  have e : ixOf (.lst (l.map .int)) (.int a) S = some j := by
    unfold ixOf
    rw [vw_is]
    show (if SeqAt.shaped (.list (l.map PyData.int)) = true ∧ SeqAt.shaped (.int a) = true then (l.map PyData.int).findIdx? (fun z => PyData.eqv z (.int a)) else none) = _
    rw [if_pos ⟨shaped_is l, rfl⟩, List.findIdx?_map]
    exact h
  show (ixOf (.lst (l.map .int)) (.int a) S).map _ = _
  rw [e]
  rfl
theorem repr_int {i : Int} (h : logOk i) : reprD [.int i] S = some (.str (toString i)) := by
  have z : (toString i : Str).length ≤ sizeLine := Nat.le_trans (PyProof.Rows.int_text_len_1921 h) (by decide)
  show (if i.natAbs.log2 < 1920 ∧ (toString i : Str).length ≤ sizeLine then some (D.str (toString i)) else none) = _
  exact if_pos ⟨h, z⟩
theorem repr_non : reprD [.non] S = some (.str "None") := rfl
theorem chT_ok {op op' : D → D → Cells → Option D} {a b c : M D} {x y z : D} {k k2 : Bool} (h1 : a S = .ok x S) (h2 : b S = .ok y S) (h3 : op x y S = some (.bl k)) (h4 : c S = .ok z S) (h5 : op' y z S = some (.bl k2)) : chT op op' a b c S = .ok (k && k2) S := by
  refine bd_ok (a := .bl (k && k2)) (S1 := S) ?_ (op_ok rfl)
  refine bd_ok h1 (bd_ok h2 (bd_ok (a := k) (op_ok (by show (op x y S).bind asB = _; rw [h3]; rfl)) ?_))
  cases k with
  | true => exact bd_ok h4 (op_ok (by simpa using h5))
  | false => rfl
end
end DL
namespace MS
/-- the place of an address in a scan -/
theorem rng_place (p : P) (a : Int) : (rng p).findIdx? (· == a) = if a ∈ rng p then some (dist a p.1).toNat else none := by
  by_cases h : a ∈ rng p
  · rw [if_pos h]
    have hl := rng_len p
    have hm := mem_rng.mp h
    obtain ⟨x, y⟩ := p
    simp only at hm hl ⊢
    have hd : (dist a x).toNat < (rng (x, y)).length := by
      have : dist a x ≤ dist y x := by unfold dist; split <;> split <;> omega
      have : 0 ≤ dist a x := by unfold dist; split <;> omega
      omega
    have key : ∀ j (hj : j < (rng (x, y)).length), (rng (x, y))[j] = if x ≤ y then x + (j : Nat) else x - (j : Nat) := fun j hj => by
      unfold rng
      split <;> simp
    rw [List.findIdx?_eq_some_iff_getElem]
    refine ⟨hd, ?_, fun j hj => ?_⟩
    · rw [key _ hd]
      simp only [beq_iff_eq]
      unfold dist
      split <;> split <;> omega
    · rw [key j (by omega)]
      simp only [beq_iff_eq]
      unfold dist at hj
      split at hj <;> split <;> omega
  · rw [if_neg h, List.findIdx?_eq_none_iff]
    intro x hx
    simp only [beq_eq_false_iff_ne, ne_eq]
    exact fun e => h (e ▸ hx)
def place (l : List P) (a : Int) : Option Nat := (reads l).findIdx? (· == a)
theorem place_cons (p : P) (l : List P) (a : Int) : place (p :: l) a = if a ∈ rng p then some (dist a p.1).toNat else (place l a).map (· + (rng p).length) := by
  unfold place
  show (rng p ++ reads l).findIdx? _ = _
  rw [List.findIdx?_append, rng_place]
  split <;> rfl
theorem place_none {l : List P} {a : Int} : place l a = none ↔ a ∉ reads l := by
  unfold place
  rw [List.findIdx?_eq_none_iff]
  constructor
  · intro h ha
    have := h a ha
    simp at this
  · intro h x hx
    simp only [beq_eq_false_iff_ne, ne_eq]
    exact fun e => h (e ▸ hx)
/-- the k-th address of a scan -/
theorem rng_get {p : P} {k : Nat} (h : k < (rng p).length) : (rng p)[k]? = some (p.1 + (if p.1 ≤ p.2 then 1 else -1) * (k : Nat)) := by
  rw [List.getElem?_eq_getElem h]
  congr 1
  obtain ⟨x, y⟩ := p
  simp only
  unfold rng
  split <;> simp <;> omega
end MS
end
section
set_option maxHeartbeats 4000000
/-! DLp: instances: attributes read and stored, instances made, properties, methods. -/
namespace DL
open PySem PySem.Spec L2
open PyProof.Rows hiding St
section
variable {K : PySem.W.Frag} {T : Tab} {γ hid : List Addr} {F : Hp}
theorem zip_look {f : Str} {d : D} : ∀ {ns : List Str} {ds : List D} {vs : List V}, RpL K T γ F ds vs → (ns.zip ds).lookup f = some d → ∃ v, (ns.zip vs).lookup f = some v ∧ Rp K T γ F d v
  | [], _, _, _, e => by simp at e
  | n :: ns, [], _, _, e => by simp at e
  | n :: ns, x :: ds, _, h, e => by
    cases h with
    | @cons _ _ v vs a b =>
      rw [List.zip_cons_cons, List.lookup_cons] at e
      rw [List.zip_cons_cons, List.lookup_cons]
      cases q : (f == n) with
      | true =>
        rw [q] at e
        cases e
        exact ⟨v, rfl, a⟩
      | false =>
        rw [q] at e
        exact zip_look b e
theorem pair_look {f : Str} {d : D} : ∀ {fs : List (Str × D)} {gs : List (Str × V)}, fs.map (·.1) = gs.map (·.1) → RpL K T γ F (fs.map (·.2)) (gs.map (·.2)) → fs.lookup f = some d → ∃ v, gs.lookup f = some v ∧ Rp K T γ F d v
  | [], _, _, _, e => by simp at e
  | (n, x) :: fs, [], h, _, _ => by simp at h
  | (n, x) :: fs, (m, y) :: gs, h, r, e => by
    have h : n :: fs.map (·.1) = m :: gs.map (·.1) := h
    injection h with h1 h2
    subst h1
    have r : RpL K T γ F (x :: fs.map (·.2)) (y :: gs.map (·.2)) := r
    cases r with
    | cons a b =>
      rw [List.lookup_cons] at e ⊢
      cases q : (f == n) with
      | true =>
        rw [q] at e
        cases e
        exact ⟨y, rfl, a⟩
      | false =>
        rw [q] at e
        exact pair_look h2 b e
/-- an attribute of an instance -/
def fldD (NM : Nat → List Str) (cs : List Nat) (f : Str) (d : D) (S : Cells) : Option D := match d with
  | .obj c l => if c ∈ cs then ((NM c).zip l).lookup f else none
  | .ref n => match S[n]? with
    | some ⟨_, .ins c fs⟩ => if c ∈ cs then fs.lookup f else none
    | _ => none
  | _ => none
def putD (f : Str) (v : D) : List (Str × D) → List (Str × D)
  | [] => [(f, v)]
  | (g, x) :: r => if g = f then (g, v) :: r else (g, x) :: putD f v r
theorem putD_rep {f : Str} {d : D} {v : V} (r : Rp K T γ F d v) : ∀ {fs : List (Str × D)} {gs : List (Str × V)}, fs.map (·.1) = gs.map (·.1) → RpL K T γ F (fs.map (·.2)) (gs.map (·.2)) → (putD f d fs).map (·.1) = (putF f v gs).map (·.1) ∧ RpL K T γ F ((putD f d fs).map (·.2)) ((putF f v gs).map (·.2))
  | [], [], _, _ => ⟨rfl, .cons r .nil⟩
  | [], _ :: _, h, _ => by simp at h
  | _ :: _, [], h, _ => by simp at h
  | (n, x) :: fs, (m, y) :: gs, h, q => by
    have h : n :: fs.map (·.1) = m :: gs.map (·.1) := h
    injection h with h1 h2
    subst h1
    have q : RpL K T γ F (x :: fs.map (·.2)) (y :: gs.map (·.2)) := q
    cases q with
    | cons a b =>
      unfold putD putF
      by_cases e : n = f
      · rw [if_pos e, if_pos e]
        exact ⟨by show n :: _ = n :: _; rw [h2], .cons r b⟩
      · rw [if_neg e, if_neg e]
        obtain ⟨i1, i2⟩ := putD_rep r h2 b
        exact ⟨by show n :: _ = n :: _; rw [i1], .cons a i2⟩
end
section
variable {X : Cx} {T : Tab} {EE : XX} {e o : Expr} {es : List Expr} {fe fo : En → M D} {fs : En → M (List D)} {f x : Str} {pos pos' p : Pos} {NM : Nat → List Str} {cs : List Nat}
theorem ev_fld (NM : Nat → List Str) (cs : List Nat) (hT : T.N = NM) (hc : ∀ c ∈ cs, Cls X.K (T.C c) ∧ NoAttr X.K (T.C c) f) (he : EvE X T EE e fe) (hb : attributeBase e f X.env (eval e X.env) = eval e X.env := by rfl) :
    EvE X T EE (.Attribute e f pos) (fun ρ => M.bind (fe ρ) fun d => M.opt (fldD NM cs f d)) := by
  refine ⟨(pe_fld he.pe hb).dimp fun σ H Q h => ?_⟩
  refine (show dG X.K T EE (repE X.K T) fe σ H _ from ?_)
  obtain ⟨_, _, _, _, h1, h2, h3⟩ := bindD (rep := repE X.K T) h
  refine ⟨_, _, _, _, h1, h2, h3.imp fun v H1 ⟨d, γ1, hid, S1, ρ, q1, q3, q4, q5⟩ => ?_⟩
  obtain ⟨y, ey, w⟩ := opt_ok q5
  unfold fldD at ey
  split at ey
  · split at ey
    · rename_i c l hcs
      cases q4 with
      | obj a z b =>
        rw [← hT] at ey
        obtain ⟨u, e1, e2⟩ := zip_look b ey
        exact ⟨_, _, _, _, u, rfl, out_sub _ _ _ _ _ _ a, (hc c hcs).1, (hc c hcs).2, e1, w γ1 H1 u q1 (Ext.refl _ _ _) e2⟩
    · cases ey
  · rename_i n
    split at ey
    · rename_i b c fs' en
      split at ey
      · rename_i hcs
        cases q4 with
        | ref a =>
          obtain ⟨ob, eo, cr⟩ := q1.cell n _ _ a en
          cases cr with
          | ins k1 k2 =>
            obtain ⟨u, e1, e2⟩ := pair_look k1 k2 ey
            exact ⟨_, _, _, _, u, rfl, eo, (hc c hcs).1, (hc c hcs).2, e1, w γ1 H1 u q1 (Ext.refl _ _ _) (Rp.nil_any (fun _ _ z => z) e2)⟩
      · cases ey
    · cases ey
  · cases ey
def setFD (cs : List Nat) (f : Str) (d y : D) (S : Cells) : Option Cells := match d with
  | .ref n => match S[n]? with
    | some ⟨true, .ins c fs⟩ => if c ∈ cs ∧ y.flat = true ∧ fs.length < 1000 then some (S.set n ⟨true, .ins c (putD f y fs)⟩) else none
    | _ => none
  | _ => none
def fldS (cs : List Nat) (f : Str) (fv fo : En → M D) : SM := bindS fv fun y => bindS fo fun d ρ S => match setFD cs f d y S with
  | some S' => .nx ρ S'
  | none => .stuck
/-- o.f = e -/
theorem es_fld (cs : List Nat) (hc : ∀ c ∈ cs, Cls X.K (T.C c) ∧ NoAttr X.K (T.C c) f) (he : EvE X T EE e fe) (ho : EvE X T EE o fo) (hs : swapsWith e (some (.Attribute o f pos')) pos.line X.env = pure false := by rfl) :
    EvS X T EE (.Assign [.Attribute o f pos'] e pos) (fldS cs f fe fo) := by
  refine ⟨(ps_fld ho.pe he.pe hs).dimp fun Dn σ H h => ?_⟩
  refine (show dG X.K T EE (repE X.K T) fe σ H _ from ?_)
  obtain ⟨γ, hid, S, ρ, hold, env, h⟩ := h
  obtain ⟨_, _, _, _, h1, h2, h3⟩ := bindSR (rep := repE X.K T) hold env h
  refine ⟨_, _, _, _, h1, h2, h3.imp fun vy H1 ⟨y, γ1, S1, q1, q2, q3, q4, q5⟩ => ?_⟩
  refine (show dG X.K T EE (repE X.K T) fo σ H1 _ from ?_)
  obtain ⟨_, _, _, _, h1, h2, h3⟩ := bindSR (rep := repE X.K T) q1 q3 q5
  refine ⟨_, _, _, _, h1, h2, h3.imp fun vo H2 ⟨d, γ2, S2, w1, w2, w3, w4, w5⟩ => ?_⟩
  cases es : setFD cs f d y S2 with
  | none =>
    simp only [es] at w5
    exact w5.elim
  | some S' =>
    simp only [es] at w5
    unfold setFD at es
    split at es
    · rename_i n
      split at es
      · rename_i c fs' en
        split at es
        · rename_i hz
          cases es
          cases w4 with
          | ref a =>
            obtain ⟨ob, eo, cr⟩ := w1.cell n _ _ a en
            cases cr with
            | ins k1 k2 =>
              rename_i dx gs
              have ry := Rp.toflat _ _ hz.2.1 (w2.rp q4)
              obtain ⟨i1, i2⟩ := putD_rep (f := f) ry k1 k2
              have gl : gs.length < 1000 := by
                have := congrArg List.length k1
                rw [List.length_map, List.length_map] at this
                omega
              obtain ⟨a1, a2⟩ := w1.write a en (.ins (dx := dx) i1 i2)
              exact ⟨_, _, dx, gs, rfl, eo, (hc c hz.1).1, (hc c hz.1).2, gl, w5 _ _ σ a1 a2 (w3.mono a2.pre (a2.sameH hid))⟩
        · cases es
      · cases es
    · cases es
/-! ### instances made -/
def mkEnd (NM : Nat → List Str) (c n0 : Nat) : R D → R D
  | .ok .non S' => match S'[n0]? with
    | some ⟨_, .ins c' fs⟩ => if c' = c ∧ fs.map (·.1) = NM c then .ok (.obj c (fs.map (·.2))) (S'.take n0) else .stuck
    | _ => .stuck
  | _ => .stuck
/-- C(..): __init__ with a new cell, which is read from then on -/
def makeD (NM : Nat → List Str) (c n : Nat) (g : List D → M D) (ds : List D) : M D := fun S => if ds.length + 1 = n then mkEnd NM c S.length (g (.ref S.length :: ds) (S ++ [⟨true, .ins c []⟩])) else .stuck
theorem mkEnd_ok {c n0 : Nat} {r : R D} {d : D} {S' : Cells} (e : mkEnd NM c n0 r = .ok d S') : ∃ S1 b fs, r = .ok .non S1 ∧ S1[n0]? = some ⟨b, .ins c fs⟩ ∧ fs.map (·.1) = NM c ∧ d = .obj c (fs.map (·.2)) ∧ S' = S1.take n0 := by
  cases r with
  | err x S => exact absurd e (by intro z; cases z)
  | stuck => exact absurd e (by intro z; cases z)
  | ok d1 S1 =>
    cases d1 with
    | non =>
      have e : (match S1[n0]? with
        | some ⟨_, .ins c' fs⟩ => if c' = c ∧ fs.map (·.1) = NM c then .ok (.obj c (fs.map (·.2))) (S1.take n0) else .stuck
        | _ => .stuck : R D) = .ok d S' := e
      split at e
      · rename_i b c' fs en
        split at e
        · rename_i hz
          obtain ⟨rfl, hz2⟩ := hz
          cases e
          exact ⟨S1, b, fs, rfl, en, hz2, rfl, rfl⟩
        · cases e
      · cases e
    | _ => exact absurd e (by intro z; cases z)
theorem ins_frozen {K : PySem.W.Frag} {γ hid : List Addr} {S : Cells} {H : Hp} {n0 c : Nat} {a : Addr} {b : Bool} {fs : List (Str × D)} (h : Hold K T γ hid S H) (hT : T.N = NM) (ea : γ[n0]? = some a) (en : S[n0]? = some ⟨b, .ins c fs⟩) (hn : fs.map (·.1) = NM c) :
    Rp K T (γ.take n0) (out (γ.take n0) (S.take n0) hid H) (.obj c (fs.map (·.2))) (.ref a) := by
  obtain ⟨ob, eo, cr⟩ := h.cell n0 a _ ea en
  cases cr with
  | ins k1 k2 =>
    rename_i dx gs
    have ez : (T.N c).zip (gs.map (·.2)) = gs := by
      rw [hT, ← hn, k1]
      clear k1 k2 eo
      induction gs with
      | nil => rfl
      | cons g gs ih => simp [ih]
    have nl : liveAt (γ.take n0) (S.take n0) a = false := live_no fun hm => by
      obtain ⟨m, hm⟩ := List.mem_iff_getElem?.mp hm
      obtain ⟨h3, h4⟩ := getElem?_take_some hm
      have := nd_ix h.nd ea h3
      omega
    refine .obj (dx := dx) (vs := gs.map (·.2)) (out_some.mpr ⟨fun z => h.hidG _ z (List.mem_of_getElem? ea), nl, by rw [ez]; exact eo⟩) ?_ (k2.nil_any ((h.cut n0).2 hid))
    rw [List.length_map, hT, ← hn, k1, List.length_map]
theorem ev_make {c k n : Nat} {g : List D → M D} {fa : Addr} {fd : FuncData} {ps : List Str} (hM : Mk X.K (T.C c) fa) (F : FnG X.prog X.w X.K X.mg X.base k fa fd ps (spD X.K T n g)) (hT : T.N = NM) (hr : Room (k + 1) X.A) (nr : NoRepr X.A) (hg : Gl X x) (hm : X.mg x = some (.ref (T.C c))) (hb : Binds X.K fd ps [])
    (ha : EvA X T EE (e :: es) fs) (hdb : (x == ("__debug__" : Str)) = false := by decide) (he : starEach (e :: es) X.env = (false, eval e X.env) :: starEach es X.env := by rfl) (hpl : (backTo pos (starEach es X.env)).any (·.1) = false := by rfl) :
    EvE X T EE (.Call (.Name x p) (e :: es) [] pos) (fun ρ => M.bind (fs ρ) fun ds => makeD NM c n g ds) := by
  refine ⟨(pg_make (E := E0) hM F hr nr hg hm hb ha.pa hdb he hpl).dimp fun σ H Q h => ?_⟩
  refine (show dG X.K T EE (repA X.K T) fs σ H _ from ?_)
  obtain ⟨_, _, _, _, h1, h2, h3⟩ := bindD (rep := repA X.K T) h
  refine ⟨_, _, _, _, h1, h2, h3.imp fun vs H1 ⟨ds, γ1, hid, S1, ρ, q1, q3, q4, q5⟩ => ?_⟩
  intro y dx ny nd hne
  have q5 : resG X.K T EE (repE X.K T) γ1 hid S1 H1 ρ σ (makeD NM c n g ds S1) Q := q5
  unfold makeD at q5
  split at q5
  · rename_i hlen
    cases em : mkEnd NM c S1.length (g (.ref S1.length :: ds) (S1 ++ [⟨true, .ins c []⟩])) with
    | err x S => exact absurd em (by
        intro z
        cases er : g (.ref S1.length :: ds) (S1 ++ [⟨true, .ins c []⟩]) with
        | ok d S2 =>
          rw [er] at z
          cases d with
          | non =>
            have z : (match S2[S1.length]? with
              | some ⟨_, .ins c' fs⟩ => if c' = c ∧ fs.map (·.1) = NM c then .ok (.obj c (fs.map (·.2))) (S2.take S1.length) else .stuck
              | _ => .stuck : R D) = _ := z
            split at z
            · split at z <;> cases z
            · cases z
          | _ => cases z
        | err _ _ => rw [er] at z; cases z
        | stuck => rw [er] at z; cases z)
    | stuck => rw [em] at q5; exact q5.elim
    | ok d S' =>
      rw [em] at q5
      obtain ⟨S2, b, gs, er, en, hn, rfl, rfl⟩ := mkEnd_ok em
      obtain ⟨a1, a2, _⟩ := q1.lay nd (.own y)
      have ny2 : (upd H1 dx (.own y)) y = none := by rw [upd_ne (Ne.symm hne)]; exact ny
      obtain ⟨c1, c2⟩ := a1.newCell ny2 (c := .ins c []) (o := .ins (T.C c) dx []) (.ins rfl .nil)
      have ext := a2.trans c2
      have hl : γ1.length = S1.length := q1.len
      have gy : (γ1 ++ [y])[S1.length]? = some y := by rw [← hl]; simp
      refine ⟨_, hid, _, .ref S1.length :: ds, c1, .cons (.ref gy) (by rw [List.append_nil]; exact ext.rpl q4), by simpa using hlen, _, _, er, fun γ' H' v h1 h2 h3 => ?_⟩
      cases h3
      refine ⟨rfl, ?_⟩
      obtain ⟨e1, e2⟩ := Ext.cut q1 h1 (ext.trans h2)
      exact q5 _ H' _ (h1.cut _).1 e2 (ins_frozen h1 hT (h2.pre _ _ gy) en hn)
  · exact q5.elim
end
end DL
namespace DL
open PySem PySem.Spec L2
open PyProof.Rows hiding St
section
variable {X : Cx} {T : Tab} {EE : XX} {e o : Expr} {es : List Expr} {fe fo : En → M D} {fs : En → M (List D)} {f m : Str} {pos apos : Pos} {NM : Nat → List Str} {k n c : Nat} {g : List D → M D} {fa pa : Addr} {fd : FuncData} {ps : List Str}
/-- an instance of the class c (it has no attribute m) -/
def isC (NM : Nat → List Str) (c : Nat) (m : Str) (d : D) (_ : Cells) : Option Unit := match d with
  | .obj c' _ => if c' = c ∧ m ∉ NM c then some () else none
  | _ => none
theorem zip_no {f : Str} : ∀ {ns : List Str} {vs : List V}, f ∉ ns → (ns.zip vs).lookup f = none
  | [], _, _ => rfl
  | _ :: _, [], _ => rfl
  | n :: ns, v :: vs, h => by
    rw [List.zip_cons_cons, List.lookup_cons]
    have : (f == n) = false := by
      rw [beq_eq_false_iff_ne]
      exact fun e => h (by rw [e]; exact List.mem_cons_self)
    rw [this]
    exact zip_no fun z => h (List.mem_cons_of_mem _ z)
theorem isC_ok {K : PySem.W.Frag} {γ hid : List Addr} {S : Cells} {H : Hp} {d : D} {v : V} (hT : T.N = NM) (r : Rp K T γ (out γ S hid H) d v) (e : isC NM c m d S = some ()) : ∃ a dx fs, v = .ref a ∧ H a = some (.ins (T.C c) dx fs) ∧ fs.lookup m = none := by
  unfold isC at e
  split at e
  · split at e
    · rename_i hz
      obtain ⟨rfl, hn⟩ := hz
      cases r with
      | obj a z b => exact ⟨_, _, _, rfl, out_sub _ _ _ _ _ _ a, zip_no (by rw [hT]; exact hn)⟩
    · cases e
  · cases e
/-- o.m(e, ..), m a def of o's class -/
theorem ev_mt {pl : Sem Bool} (hT : T.N = NM) (ho : EvE X T EE o fo) (hc : Cls X.K (T.C c)) (hm : Meth X.K (T.C c) m fa) (F : FnG X.prog X.w X.K X.mg X.base k fa fd ps (spD X.K T n g)) (hr : Room k X.A) (nr : NoRepr X.A) (hb : Binds X.K fd ps []) (ha : EvA X T EE (e :: es) fs)
    (hst : starEach (e :: es) X.env = (false, eval e X.env) :: starEach es X.env := by rfl) (hpl : (backTo pos (starEach es X.env)).any (·.1) = false := by rfl)
    (ht : eval (.Call (.Attribute o m apos) (e :: es) [] pos) X.env = (do
      let recv ← eval o X.env
      standAt apos.atName
      let (g, h) ← holding [recv] (getMethod recv m pl)
      callWith pos g h (backTo pos (starEach (e :: es) X.env)) (backToKw pos (keywordEach [] X.env))) := by rfl) :
    EvE X T EE (.Call (.Attribute o m apos) (e :: es) [] pos) (fun ρ => M.bind (fo ρ) fun d => M.bind (M.opt (isC NM c m d)) fun _ => M.bind (fs ρ) fun ds => calmM (arity n g (d :: ds))) := by
  refine ⟨(pg_meth (E := E0) ho.pe hc hm F hr nr hb ha.pa hst hpl ht).dimp fun σ H Q h => ?_⟩
  refine (show dG X.K T EE (repE X.K T) fo σ H _ from ?_)
  obtain ⟨γ, hid, S, ρ, hold, env, h⟩ := h
  obtain ⟨_, _, _, _, h1, h2, h3⟩ := bindR (rep := repE X.K T) hold env h
  refine ⟨_, _, _, _, h1, h2, h3.imp fun x H1 ⟨d1, γ1, S1, q1, q2, q3, q4, q5⟩ => ?_⟩
  cases et : isC NM c m d1 S1 with
  | none =>
    rw [bind_of_stuck (opt_none et)] at q5
    exact q5.elim
  | some u =>
    rw [bind_of_ok (opt_some et)] at q5
    obtain ⟨a, dx, gs, ex, ea, el⟩ := isC_ok hT q4 et
    refine ⟨a, dx, gs, ex, ea, el, ?_⟩
    refine (show dG X.K T EE (repA X.K T) fs σ H1 _ from ?_)
    obtain ⟨_, _, _, _, h1, h2, h3⟩ := bindR (rep := repA X.K T) q1 q3 q5
    refine ⟨_, _, _, _, h1, h2, h3.imp fun vs H2 ⟨ds, γ2, S2, w1, w2, w3, w4, w5⟩ => ?_⟩
    have w5 : resG X.K T EE (repE X.K T) γ2 hid S2 H2 ρ σ (calmM (arity n g (d1 :: ds)) S2) Q := w5
    refine spD_arity ?_
    have rr : RpL X.K T γ2 (out γ2 S2 hid H2) (d1 :: ds) (x :: vs) := .cons (w2.rp q4) w4
    cases eg : arity n g (d1 :: ds) S2 with
    | err x S => unfold calmM at w5; rw [eg] at w5; exact w5.elim
    | stuck => unfold calmM at w5; rw [eg] at w5; exact w5.elim
    | ok d S' =>
      unfold calmM at w5
      rw [eg] at w5
      have hl : (d1 :: ds).length = n := by
        by_cases hn : (d1 :: ds).length = n
        · exact hn
        · unfold arity at eg
          rw [if_neg hn] at eg
          cases eg
      subst ex
      refine ⟨γ2, hid, S2, d1 :: ds, w1, by rw [List.append_nil]; exact rr, hl, d, S', eg, fun γ' H' v b1 b2 b3 => w5 γ' H' v b1 b2 b3⟩
/-- from what is wanted of a call to its promise -/
theorem sp_of {K : PySem.W.Frag} {γ hid : List Addr} {S : Cells} {H : Hp} {ρ : En} {σ : St} {Q : VK} {E : XK} {ds : List D} {vs : List V} (w : resG K T EE (repE K T) γ hid S H ρ σ (calmM (arity n g ds) S) Q) (h : Hold K T γ hid S H) (r : RpL K T γ (out γ S hid H) ds vs) : spD K T n g vs H Q E := by
  refine spD_arity ?_
  cases eg : arity n g ds S with
  | err x S => unfold calmM at w; rw [eg] at w; exact w.elim
  | stuck => unfold calmM at w; rw [eg] at w; exact w.elim
  | ok d S' =>
    unfold calmM at w
    rw [eg] at w
    have hl : ds.length = n := by
      by_cases hn : ds.length = n
      · exact hn
      · unfold arity at eg
        rw [if_neg hn] at eg
        cases eg
    exact ⟨γ, hid, S, ds, h, r, hl, d, S', eg, fun γ' H' v b1 b2 b3 => w γ' H' v b1 b2 b3⟩
theorem ev_mt0 {pl : Sem Bool} (hT : T.N = NM) (ho : EvE X T EE o fo) (hc : Cls X.K (T.C c)) (hm : Meth X.K (T.C c) m fa) (F : FnG X.prog X.w X.K X.mg X.base k fa fd ps (spD X.K T n g)) (hr : Room k X.A) (nr : NoRepr X.A) (hb : Binds X.K fd ps [])
    (ht : eval (.Call (.Attribute o m apos) [] [] pos) X.env = (do
      let recv ← eval o X.env
      standAt apos.atName
      let (g, h) ← holding [recv] (getMethod recv m pl)
      callWith pos g h (backTo pos (starEach [] X.env)) (backToKw pos (keywordEach [] X.env))) := by rfl) :
    EvE X T EE (.Call (.Attribute o m apos) [] [] pos) (fun ρ => M.bind (fo ρ) fun d => M.bind (M.opt (isC NM c m d)) fun _ => calmM (arity n g [d])) := by
  refine ⟨(pg_meth0 (E := E0) ho.pe hc hm F hr nr hb ht).dimp fun σ H Q h => ?_⟩
  refine (show dG X.K T EE (repE X.K T) fo σ H _ from ?_)
  obtain ⟨_, _, _, _, h1, h2, h3⟩ := bindD (rep := repE X.K T) h
  refine ⟨_, _, _, _, h1, h2, h3.imp fun x H1 ⟨d1, γ1, hid, S1, ρ, q1, q3, q4, q5⟩ => ?_⟩
  cases et : isC NM c m d1 S1 with
  | none =>
    rw [bind_of_stuck (opt_none et)] at q5
    exact q5.elim
  | some u =>
    rw [bind_of_ok (opt_some et)] at q5
    obtain ⟨a, dx, gs, ex, ea, el⟩ := isC_ok hT q4 et
    exact ⟨a, dx, gs, ex, ea, el, sp_of (E := E0) q5 q1 (.cons q4 .nil)⟩
/-- what a property's getter gives -/
theorem getP {pins : List (Addr × Obj)} {σ : St} {H : Hp} {s : Shared} {Q : VK} {b : Bool} {W : Value → Shared → Prop} {a dx C pr : Addr} {gs : List (Str × V)} {sp : Sp} {E : XK} (I : Inv X pins σ H s) (ea : H a = some (.ins C dx gs)) (hc : Cls X.K C) (hp : PropOf X.K C f pr fa)
    (F : FnG X.prog X.w X.K X.mg X.base k fa fd ps sp) (hr : Room (k + 1) X.A) (nr : NoRepr X.A) (hb : Binds X.K fd ps []) (h : sp [.ref a] H Q E) : wpAny (model X.prog X.w) X.A (getAttr (.ref a) f b) (EP X pins σ Q) W s := by
  obtain ⟨mA, ob, _, _, _, _⟩ := ins_get I.hok ea
  obtain ⟨od, at2, _⟩ := ob.look
  obtain ⟨rest, rc⟩ := hp.rec_
  have I2 := I.tok (s.toks + 1)
  have len : [Value.ref a].length = ps.length := F.len _ _ _ _ h
  have isc : (PySem.W.clsIn X.K C).isSome = true := by
    obtain ⟨cd, q, _⟩ := PySem.W.any_some hc.hd
    rw [q]
    rfl
  have bd := hb { s with toks := s.toks + 1 } [.ref a] I2.kIn (by rw [List.append_nil]; exact len)
  rw [List.append_nil] at bd
  refine PySem.W.get_bind I.kIn at2 (PySem.W.plainGet_of (hc.get f)).1 (PySem.W.findObj_data isc hp.at_ hp.get hp.tak) (PySem.W.plainGet_of (hc.get f)).2 (wpAny_call (PySem.W.prop_get (s := { s with toks := s.toks + 1 }) I.kIn rc ?_))
  refine codeAny_mono (F.run X.A.in1 X.stack { s with toks := s.toks + 1 } H ⟨[.ref a], []⟩ [.ref a] [.ref a] Q E hr.in1 nr I2.env0.in1 bd (.cons rfl .nil) h) fun r t z => ?_
  cases r with
  | error er => exact False.elim z
  | ok flow =>
    cases flow with
    | ret u =>
      obtain ⟨v, H2, I3, rv, q3⟩ := I2.after z
      show wpAny _ _ (handedOut u) _ _ _
      rw [PySem.W.handedOut_of (handed_of rv)]
      exact wpAny_pure ⟨v, H2, I3, rv, q3⟩
    | next => exact False.elim z
    | brk => exact False.elim z
    | cont => exact False.elim z
/-- o.f, a property -/
theorem ev_prop {pr : Addr} (hT : T.N = NM) (ho : EvE X T EE o fo) (hc : Cls X.K (T.C c)) (hp : PropOf X.K (T.C c) f pr fa) (F : FnG X.prog X.w X.K X.mg X.base k fa fd ps (spD X.K T n g)) (hr : Room (k + 1) X.A) (nr : NoRepr X.A) (hb : Binds X.K fd ps [])
    (hab : attributeBase o f X.env (eval o X.env) = eval o X.env := by rfl) : EvE X T EE (.Attribute o f pos) (fun ρ => M.bind (fo ρ) fun d => M.bind (M.opt (isC NM c f d)) fun _ => calmM (arity n g [d])) := by
  refine ⟨⟨fun pins s σ H Q I h => ?_⟩⟩
  obtain ⟨_, _, _, _, h1, h2, h3⟩ := bindD (rep := repE X.K T) h
  refine attr_of hab (thn (ho.pe.run pins s σ H _ I ⟨_, _, _, _, h1, h2, h3⟩) fun u s1 ⟨x, H1, I1, rx, d1, γ1, hid, S1, ρ, q1, q3, q4, q5⟩ => ?_)
  cases et : isC NM c f d1 S1 with
  | none =>
    rw [bind_of_stuck (opt_none et)] at q5
    exact q5.elim
  | some w =>
    rw [bind_of_ok (opt_some et)] at q5
    obtain ⟨a, dx, gs, rfl, ea, el⟩ := isC_ok hT q4 et
    obtain rfl : u = Value.ref a := rx
    exact getP (E := E0) I1 ea hc hp F hr nr hb (sp_of q5 q1 (.cons q4 .nil))
end
end DL
end
section
set_option maxHeartbeats 4000000
/-! DLq: the head's facts for classes with properties: defs by an address of one's own, properties. -/
namespace DL
open PySem PySem.Spec L2
open PyProof.Rows hiding St
/-- a property: its class by name, its own name -/
structure PrD where
  cls : Str
  name : Str
def prA (K : PySem.W.Frag) (p : PrD) : Addr := match PySem.W.findIn K (.ref (He.ga K p.cls)) p.name with
  | some (some (.ref a)) => a
  | _ => 0
/-- its getter -/
def prG (K : PySem.W.Frag) (p : PrD) : Addr := match PySem.W.recIn K (prA K p) "property" with
  | some (.ref g :: _) => g
  | _ => 0
def prOk (K : PySem.W.Frag) (p : PrD) : Bool := decide (PySem.W.findIn K (.ref (He.ga K p.cls)) p.name = some (some (.ref (prA K p)))) &&
  (decide (PySem.W.specialIn K (.ref (prA K p)) "__get__" = some (some (.builtin "property.__get__"))) && (decide (PySem.W.takesIn K (.ref (prA K p)) = some true) && (match PySem.W.recIn K (prA K p) "property" with
    | some (.ref g :: _) => decide (g = prG K p)
    | _ => false)))
theorem prOk_ok {K : PySem.W.Frag} {p : PrD} (h : prOk K p = true) : PropOf K (He.ga K p.cls) p.name (prA K p) (prG K p) := by
  unfold prOk at h
  simp only [Bool.and_eq_true, decide_eq_true_eq] at h
  obtain ⟨h1, h2, h3, h4⟩ := h
  refine ⟨h1, h2, h3, ?_⟩
  split at h4
  · rename_i g rest e
    rw [decide_eq_true_eq] at h4
    rw [h4] at e
    exact ⟨rest, e⟩
  · cases h4
/-- one def without defaults, by an address of one's own -/
structure DefQ where
  ad : PySem.W.Frag → Addr
  name : Str
  qual : Str
  params : Arguments
  body : List Stmt
  scope : Scope
def fnQ (K : PySem.W.Frag) (d : DefQ) : He.FnW := match K.lookup (d.ad K) with
  | some ⟨_, _, .func q, _⟩ => some (q.name, q.qualname, q.params, q.body, q.scope, q.globals, q.closure, q.builtins)
  | _ => none
def DefQ.val (d : DefQ) : He.FnW := some (d.name, d.qual, d.params, .stmts d.body, d.scope, mainGlobals, [], builtinsNs)
def DefQ.ok (K : PySem.W.Frag) (d : DefQ) : Bool := PySem.W.keepIn K (.ref (d.ad K)) && (match K.lookup (d.ad K) with
  | some ⟨_, _, .func q, _⟩ => PySem.W.codeIn K q.code d.qual && (He.dflB K q.defaults [] && He.kwdB K q.kwdefaults [])
  | _ => false)
theorem DefQ.funD {K : PySem.W.Frag} {d : DefQ} (e : fnQ K d = d.val) (h : d.ok K = true) : ∃ fd, FunD K d.name d.qual d.params d.body d.scope [] [] (d.ad K) fd := by
  unfold DefQ.ok at h
  rw [Bool.and_eq_true] at h
  obtain ⟨kp, h2⟩ := h
  unfold fnQ at e
  cases q : K.lookup (d.ad K) with
  | none =>
    rw [q] at h2
    cases h2
  | some o =>
    obtain ⟨oc, od, dt, sl⟩ := o
    rw [q] at h2 e
    cases dt with
    | func fd =>
      obtain ⟨a1, a2, a3, a4, a5, a6, a7, a8, a9, a10, a11, a12, a13, a14, a15⟩ := fd
      have e2 : (some (a1, a2, a3, a4, a5, a6, a7, a15) : He.FnW) = some (d.name, d.qual, d.params, .stmts d.body, d.scope, mainGlobals, [], builtinsNs) := e
      simp only [Option.some.injEq, Prod.mk.injEq] at e2
      obtain ⟨r1, r2, r3, r4, r5, r6, r7, r8⟩ := e2
      subst r1 r2 r3 r4 r5 r6 r7 r8
      have h3 : (PySem.W.codeIn K a13 d.qual && (He.dflB K a8 [] && He.kwdB K a9 [])) = true := h2
      rw [Bool.and_eq_true, Bool.and_eq_true] at h3
      exact ⟨_, ⟨oc, od, a8, a9, a10, a11, a12, a13, a14, sl, rfl, q, h3.1, He.dflB_ok h3.2.1, He.kwdB_ok h3.2.2⟩, kp⟩
    | _ => cases h2
/-! the observation: facts, properties, defs -/
abbrev AlQ : Type := Bool × List He.FnW
def obsQ (fa : List He.Fa) (pr : List PrD) (fn : List DefQ) (K : PySem.W.Frag) : AlQ := ((fa.all fun f => f.ok K) && ((pr.all fun p => prOk K p) && fn.all fun d => d.ok K), fn.map fun d => fnQ K d)
def valQ (fn : List DefQ) : AlQ := (true, fn.map DefQ.val)
def SaysQ (fa : List He.Fa) (pr : List PrD) (fn : List DefQ) (K : PySem.W.Frag) : Prop := obsQ fa pr fn K = valQ fn
def obsQG (n : Nat) (fa : List He.Fa) (pr : List PrD) (fn : List DefQ) (g : Addr → Option Obj) : AlQ := obsQ fa pr fn (He.frG g (He.asD g n))
def hookQ (n : Nat) (fa : List He.Fa) (pr : List PrD) (fn : List DefQ) : PySem.W.Hook where
  α := AlQ
  obs := fun s => obsQG n fa pr fn s.heap.get?
  val := fun _ => valQ fn
  says := fun _ h => ∃ K : PySem.W.Frag, K.In h ∧ SaysQ fa pr fn K
  of := fun _ _ e => ⟨_, He.frG_in, e⟩
  keeps := fun _ _ _ ⟨K, hK, c⟩ k => ⟨K, PySem.W.Frag.In.keeps hK k, c⟩
theorem obsQG_eq {n : Nat} {fa : List He.Fa} {pr : List PrD} {fn : List DefQ} {g : Addr → Option Obj} {s : Shared} (h : ∀ a, g a = s.heap.get? a) : obsQG n fa pr fn g = (hookQ n fa pr fn).obs s := by
  have e : g = s.heap.get? := funext h
  rw [e]
  rfl
section
variable {fa : List He.Fa} {pr : List PrD} {fn : List DefQ} {K : PySem.W.Frag}
theorem SaysQ.all (c : SaysQ fa pr fn K) : ((fa.all fun f => f.ok K) && ((pr.all fun p => prOk K p) && fn.all fun d => d.ok K)) = true := congrArg (fun z : AlQ => z.1) c
theorem SaysQ.fact (c : SaysQ fa pr fn K) (i : Nat) {f : He.Fa} (h : fa[i]? = some f := by rfl) : f.ok K = true := by
  have := c.all
  rw [Bool.and_eq_true] at this
  exact List.all_eq_true.mp this.1 f (List.mem_of_getElem? h)
theorem SaysQ.prop (c : SaysQ fa pr fn K) (i : Nat) {p : PrD} (h : pr[i]? = some p := by rfl) : PropOf K (He.ga K p.cls) p.name (prA K p) (prG K p) := by
  have := c.all
  rw [Bool.and_eq_true, Bool.and_eq_true] at this
  exact prOk_ok (List.all_eq_true.mp this.2.1 p (List.mem_of_getElem? h))
theorem SaysQ.def_ (c : SaysQ fa pr fn K) (i : Nat) {d : DefQ} (h : fn[i]? = some d := by rfl) : ∃ fd, FunD K d.name d.qual d.params d.body d.scope [] [] (d.ad K) fd := by
  have q := c.all
  rw [Bool.and_eq_true, Bool.and_eq_true] at q
  have e : fn.map (fun d => fnQ K d) = fn.map DefQ.val := congrArg (fun z : AlQ => z.2) c
  have e2 : (fn.map fun d => fnQ K d)[i]? = (fn.map DefQ.val)[i]? := by rw [e]
  rw [List.getElem?_map, List.getElem?_map, h] at e2
  exact DefQ.funD (Option.some.inj e2) (List.all_eq_true.mp q.2.2 d (List.mem_of_getElem? h))
end
end DL
end
section
set_option maxHeartbeats 4000000
/-! DLr: operators whose meaning runs a def of the text (own ==). -/
namespace DL
open PySem PySem.Spec L2
open PyProof.Rows hiding St
/-- an operator by a reading -/
def rOM (K : PySem.W.Frag) (T : Tab) (op : D → D → M D) : V → V → Hp → VK → Prop := fun x y H Q => ∃ γ hid S d1 d2 d S', Hold K T γ hid S H ∧ Rp K T γ (out γ S hid H) d1 x ∧ Rp K T γ (out γ S hid H) d2 y ∧ op d1 d2 S = .ok d S' ∧ okV K T γ hid S H d S' Q
section
variable {X : Cx} {T : Tab} {EE : XX} {a b : Expr} {fa fb : En → M D} {pos : Pos}
theorem twoM {K : PySem.W.Frag} {op : D → D → M D} {σ : St} {H : Hp} {Q : VK} (h : dE K T EE (fun ρ => M.bind (fa ρ) fun x => M.bind (fb ρ) fun y => calmM (op x y)) σ H Q) : tOp (rOM K T op) (dE K T EE fa) (dE K T EE fb) σ H Q := by
  refine (show dG K T EE (repE K T) fa σ H _ from ?_)
  obtain ⟨γ, hid, S, ρ, hold, env, h⟩ := h
  obtain ⟨_, _, _, _, h1, h2, h3⟩ := bindR (rep := repE K T) hold env h
  refine ⟨_, _, _, _, h1, h2, h3.imp fun x H1 ⟨d1, γ1, S1, q1, q2, q3, q4, q5⟩ => ?_⟩
  obtain ⟨_, _, _, _, h1, h2, h3⟩ := bindR (rep := repE K T) q1 q3 q5
  refine ⟨_, _, _, _, h1, h2, h3.imp fun y H2 ⟨d2, γ2, S2, w1, w2, w3, w4, w5⟩ => ?_⟩
  cases eg : op d1 d2 S2 with
  | err x S => unfold calmM at w5; rw [eg] at w5; exact w5.elim
  | stuck => unfold calmM at w5; rw [eg] at w5; exact w5.elim
  | ok d S' =>
    unfold calmM at w5
    rw [eg] at w5
    exact ⟨γ2, hid, S2, d1, d2, d, S', w1, w2.rp q4, w4, eg, fun γ' H' v b1 b2 b3 => w5 γ' H' v b1 b2 b3⟩
theorem ev_cmpM {o : CmpOp} {op : D → D → M D} (ho : OpR X (compareOp o) (rOM X.K T op)) (hm : behindInMarks o b = false) (ha : EvE X T EE a fa) (hb : EvE X T EE b fb) : EvE X T EE (.Compare a [o] [b] pos) (fun ρ => M.bind (fa ρ) fun x => M.bind (fb ρ) fun y => calmM (op x y)) :=
  ⟨(pe_cmpR ho ha.pe hb.pe hm).dimp fun σ H Q h => twoM h⟩
theorem ev_binM {o : Operator} {op : D → D → M D} (ho : OpR X (binaryOp o) (rOM X.K T op)) (ha : EvE X T EE a fa) (hb : EvE X T EE b fb) : EvE X T EE (.BinOp a o b pos) (fun ρ => M.bind (fa ρ) fun x => M.bind (fb ρ) fun y => calmM (op x y)) :=
  ⟨(pe_op ho ha.pe hb.pe).dimp fun σ H Q h => twoM h⟩
end
section
variable {X : Cx} {T : Tab} {NM : Nat → List Str} {k c : Nat} {g : List D → M D} {fa : Addr} {fd : FuncData} {ps : List Str}
/-- a == b by a's own def -/
def eqOwn (c : Nat) (g : List D → M D) (d1 d2 : D) : M D := fun S => match d1 with
  | .obj c' _ => if c' = c then (match g [d1, d2] S with
    | .ok (.bl b) S' => (match tyName d2, d2 with
      | some _, .ref _ => .stuck
      | some _, _ => .ok (.bl b) S'
      | none, .obj c2 _ => if c2 = c then .ok (.bl b) S' else .stuck
      | none, _ => .stuck)
    | _ => .stuck) else .stuck
  | _ => .stuck
theorem op_eqOwn (hs : PySem.W.findIn X.K (.ref (T.C c)) "__eq__" = some (some (.ref fa))) (hf : PySem.W.isFn X.K (.ref fa) = true) (hn0 : ∀ n ∈ tyNames, PySem.W.notFirst X.K (T.C c) (.type n) = true)
    (F : FnG X.prog X.w X.K X.mg X.base k fa fd ps (spD X.K T 2 g)) (hr : Room k X.A) (nr : NoRepr X.A) (hb : Binds X.K fd ps []) : OpR X (compareOp .Eq) (rOM X.K T (eqOwn c g)) := by
  intro pins s σ H x y v u Q I rx ry h
  obtain ⟨γ, hid, S, d1, d2, d, S', hold, r1, r2, e, q⟩ := h
  unfold eqOwn at e
  split at e
  · rename_i c' l
    split at e
    · rename_i hc
      subst hc
      split at e
      · rename_i b S2 eg
        cases r1 with
        | @obj p dx _ _ _ a z w =>
          obtain rfl : v = Value.ref p := rx
          obtain ⟨mA, ob, _, _, _, _⟩ := ins_get I.hok (out_sub _ _ _ _ _ _ a)
          obtain ⟨od, at1, _⟩ := ob.look
          obtain ⟨m, fr⟩ := I.fr
          have run : wpAny (model X.prog X.w) X.A (call (.ref fa) [.ref p, u]) (EP X pins σ fun w H' => ∃ b', w = .bl b' ∧ Q w H') X.xe s :=
            rung (E := E0) F hr nr hb I (vs := [.ref p, y]) (.cons (show RelV (.ref p) (Value.ref p) from rfl) (.cons ry .nil)) ⟨γ, hid, S, [.obj c' l, d2], hold, .cons (.obj a z w) (.cons r2 .nil), rfl, _, _, eg, fun γ' H' v' b1 b2 b3 => by
              cases b3
              refine ⟨b, rfl, ?_⟩
              split at e
              · cases e
              · cases e
                exact q γ' H' _ b1 b2 (.bl _)
              · split at e
                · cases e
                  exact q γ' H' _ b1 b2 (.bl _)
                · cases e
              · cases e⟩
          have hty : ∃ tb, PySem.W.Looks (model X.prog X.w) s.heap (typeOf u) tb ∧ PySem.W.notFirst X.K (T.C c') tb = true := by
            split at e
            · cases e
            · rename_i hnr en
              obtain ⟨P, Z, hP⟩ := kit_of I ry (tyX_of hold r2 en fun k hk => absurd hk (hnr k))
              exact ⟨_, Z.ty _ _ I.kIn hP.1, hn0 _ (tyName_mem en)⟩
            · split at e
              · rename_i hc2
                subst hc2
                cases r2 with
                | obj a2 z2 w2 =>
                  obtain rfl : u = Value.ref _ := ry
                  obtain ⟨mB, ob2, _, _, _, _⟩ := ins_get I.hok (out_sub _ _ _ _ _ _ a2)
                  obtain ⟨od2, at2, _⟩ := ob2.look
                  exact ⟨_, at2.type, by unfold PySem.W.notFirst; simp⟩
              · cases e
            · cases e
          obtain ⟨tb, lk, nf⟩ := hty
          refine PySem.W.cmp_K (op := .Eq) (tb := tb) hr.units0 fr I.ok.mod.kin at1 lk nf hs hf (wpAny_mono run (fun t s2 z => ?_) fun _ _ z => z)
          obtain ⟨v', H2, I2, rv, b', rfl, q2⟩ := z
          obtain rfl : t = Value.bool b' := rv
          exact ⟨.bl b', H2, I2, rfl, q2⟩
      · cases e
    · cases e
  · cases e
end
end DL
end
section
set_option maxHeartbeats 4000000
/-! DLs: methods, properties, instances made and called, own operators: by a def at an address; the head's facts for them. -/
namespace DL
open PySem PySem.Spec L2
open PyProof.Rows hiding St
/-- the def at an address keeps its promise -/
def FnA (P : Program) (w : World) (K : PySem.W.Frag) (mg : Str → Option Value) (base : Heap) (k : Nat) (ad : Addr) (ps : List Str) (sp : Sp) : Prop := ∃ fd, FnG P w K mg base k ad fd ps sp ∧ Binds K fd ps []
theorem fnA {P : Program} {w : World} {K : PySem.W.Frag} {mg : Str → Option Value} {base : Heap} {k : Nat} {ad : Addr} {ps : List Str} {sp : Sp} {x qual : Str} {params : Arguments} {body : List Stmt} {scope : Scope}
    (c : ∃ fd, FunD K x qual params body scope [] [] ad fd) (b : ∀ fd, FunD K x qual params body scope [] [] ad fd → Binds K fd ps []) (h : ∀ fd, FunD K x qual params body scope [] [] ad fd → FnG P w K mg base k ad fd ps sp) : FnA P w K mg base k ad ps sp :=
  let ⟨fd, F⟩ := c
  ⟨fd, h fd F, b fd F⟩
section
variable {X : Cx} {T : Tab} {EE : XX} {e o : Expr} {es : List Expr} {fe fo : En → M D} {fs : En → M (List D)} {f m : Str} {pos apos : Pos} {NM : Nat → List Str} {j k n c : Nat} {fa : Addr} {ps : List Str}
def isCM (NM : Nat → List Str) (c : Nat) (m : Str) (o : M D) : M D := M.bind o fun d => M.bind (M.opt (isC NM c m d)) fun _ => kon d
/-- from what is wanted of a call to its promise, a new list -/
theorem sp_ofL {g : List D → M (List D)} {K : PySem.W.Frag} {γ hid : List Addr} {S : Cells} {H : Hp} {ρ : En} {σ : St} {Q : VK} {E : XK} {ds : List D} {vs : List V} (w : resG K T EE (repL K T) γ hid S H ρ σ (calmM (arity n g ds) S) (fun us H' => ∀ p, H' p = none → Q (.ref p) (upd H' p (.lst us)))) (h : Hold K T γ hid S H) (r : RpL K T γ (out γ S hid H) ds vs) : spL K T n g vs H Q E := by
  refine spL_arity ?_
  cases eg : arity n g ds S with
  | err x S => unfold calmM at w; rw [eg] at w; exact w.elim
  | stuck => unfold calmM at w; rw [eg] at w; exact w.elim
  | ok d S' =>
    unfold calmM at w
    rw [eg] at w
    have hl : ds.length = n := by
      by_cases hn : ds.length = n
      · exact hn
      · unfold arity at eg
        rw [if_neg hn] at eg
        cases eg
    exact ⟨γ, hid, S, ds, h, r, hl, d, S', eg, fun γ' H' v b1 b2 z b3 => w γ' H' v b1 b2 ⟨z, b3⟩⟩
/-- o.m(e, ..) -/
def mtE (NM : Nat → List Str) (c : Nat) (m : Str) (n : Nat) (g : List D → M D) (o : M D) (a : M (List D)) : M D := M.bind o fun d => M.bind (M.opt (isC NM c m d)) fun _ => M.bind a fun ds => calmM (arity n g (d :: ds))
def mtL (NM : Nat → List Str) (c : Nat) (m : Str) (n : Nat) (g : List D → M (List D)) (o : M D) (a : M (List D)) : M (List D) := M.bind o fun d => M.bind (M.opt (isC NM c m d)) fun _ => M.bind a fun ds => calmM (arity n g (d :: ds))
def mt0E (NM : Nat → List Str) (c : Nat) (m : Str) (n : Nat) (g : List D → M D) (o : M D) : M D := M.bind o fun d => M.bind (M.opt (isC NM c m d)) fun _ => calmM (arity n g [d])
def mt0L (NM : Nat → List Str) (c : Nat) (m : Str) (n : Nat) (g : List D → M (List D)) (o : M D) : M (List D) := M.bind o fun d => M.bind (M.opt (isC NM c m d)) fun _ => calmM (arity n g [d])
theorem ev_mtA {g : List D → M D} {pl : Sem Bool} (F : FnA X.prog X.w X.K X.mg X.base j fa ps (spD X.K T n g)) (hr : Room k X.A) (hj : j ≤ k) (nr : NoRepr X.A) (hT : T.N = NM) (hc : Cls X.K (T.C c)) (hm : Meth X.K (T.C c) m fa) (ho : EvE X T EE o fo) (ha : EvA X T EE (e :: es) fs)
    (hst : starEach (e :: es) X.env = (false, eval e X.env) :: starEach es X.env := by rfl) (hpl : (backTo pos (starEach es X.env)).any (·.1) = false := by rfl)
    (ht : eval (.Call (.Attribute o m apos) (e :: es) [] pos) X.env = (do
      let recv ← eval o X.env
      standAt apos.atName
      let (g, h) ← holding [recv] (getMethod recv m pl)
      callWith pos g h (backTo pos (starEach (e :: es) X.env)) (backToKw pos (keywordEach [] X.env))) := by rfl) :
    EvE X T EE (.Call (.Attribute o m apos) (e :: es) [] pos) (fun ρ => mtE NM c m n g (fo ρ) (fs ρ)) :=
  let ⟨_, F, b⟩ := F
  ev_mt hT ho hc hm (F.mono hj) hr nr b ha hst hpl ht
theorem ev_mt0A {g : List D → M D} {pl : Sem Bool} (F : FnA X.prog X.w X.K X.mg X.base j fa ps (spD X.K T n g)) (hr : Room k X.A) (hj : j ≤ k) (nr : NoRepr X.A) (hT : T.N = NM) (hc : Cls X.K (T.C c)) (hm : Meth X.K (T.C c) m fa) (ho : EvE X T EE o fo)
    (ht : eval (.Call (.Attribute o m apos) [] [] pos) X.env = (do
      let recv ← eval o X.env
      standAt apos.atName
      let (g, h) ← holding [recv] (getMethod recv m pl)
      callWith pos g h (backTo pos (starEach [] X.env)) (backToKw pos (keywordEach [] X.env))) := by rfl) :
    EvE X T EE (.Call (.Attribute o m apos) [] [] pos) (fun ρ => mt0E NM c m n g (fo ρ)) :=
  let ⟨_, F, b⟩ := F
  ev_mt0 hT ho hc hm (F.mono hj) hr nr b ht
theorem ev_propA {g : List D → M D} {pr : Addr} (F : FnA X.prog X.w X.K X.mg X.base j fa ps (spD X.K T n g)) (hr : Room k X.A) (hj : j + 1 ≤ k) (nr : NoRepr X.A) (hT : T.N = NM) (hc : Cls X.K (T.C c)) (hp : PropOf X.K (T.C c) f pr fa) (ho : EvE X T EE o fo)
    (hab : attributeBase o f X.env (eval o X.env) = eval o X.env := by rfl) : EvE X T EE (.Attribute o f pos) (fun ρ => mt0E NM c f n g (fo ρ)) :=
  let ⟨_, F, b⟩ := F
  ev_prop hT ho hc hp F (hr.mono hj) nr b hab
/-- o.f, a property that hands back a new list -/
theorem evL_propA {g : List D → M (List D)} {pr : Addr} (F : FnA X.prog X.w X.K X.mg X.base j fa ps (spL X.K T n g)) (hr : Room k X.A) (hj : j + 1 ≤ k) (nr : NoRepr X.A) (hT : T.N = NM) (hc : Cls X.K (T.C c)) (hp : PropOf X.K (T.C c) f pr fa) (ho : EvE X T EE o fo)
    (hab : attributeBase o f X.env (eval o X.env) = eval o X.env := by rfl) : EvL X T EE (.Attribute o f pos) (fun ρ => mt0L NM c f n g (fo ρ)) := by
  obtain ⟨fd, F, hb⟩ := F
  have hr := hr.mono hj
  refine ⟨⟨fun pins s σ H Q I h => ?_⟩⟩
  have h : dG X.K T EE (repL X.K T) (fun ρ => M.bind (fo ρ) fun d => M.bind (M.opt (isC NM c f d)) fun _ => calmM (arity n g [d])) σ H _ := h
  obtain ⟨_, _, _, _, h1, h2, h3⟩ := bindD (rep := repE X.K T) h
  refine attr_of hab (thn (ho.pe.run pins s σ H _ I ⟨_, _, _, _, h1, h2, h3⟩) fun u s1 ⟨x, H1, I1, rx, d1, γ1, hid, S1, ρ, q1, q3, q4, q5⟩ => ?_)
  cases et : isC NM c f d1 S1 with
  | none =>
    rw [bind_of_stuck (opt_none et)] at q5
    exact q5.elim
  | some w =>
    rw [bind_of_ok (opt_some et)] at q5
    obtain ⟨a, dx, gs, rfl, ea, el⟩ := isC_ok hT q4 et
    obtain rfl : u = Value.ref a := rx
    exact getP (E := E0) I1 ea hc hp F hr nr hb (sp_ofL q5 q1 (.cons q4 .nil))
theorem evL_mt0A {g : List D → M (List D)} {pl : Sem Bool} (F : FnA X.prog X.w X.K X.mg X.base j fa ps (spL X.K T n g)) (hr : Room k X.A) (hj : j ≤ k) (nr : NoRepr X.A) (hT : T.N = NM) (hc : Cls X.K (T.C c)) (hm : Meth X.K (T.C c) m fa) (ho : EvE X T EE o fo)
    (ht : eval (.Call (.Attribute o m apos) [] [] pos) X.env = (do
      let recv ← eval o X.env
      standAt apos.atName
      let (g, h) ← holding [recv] (getMethod recv m pl)
      callWith pos g h (backTo pos (starEach [] X.env)) (backToKw pos (keywordEach [] X.env))) := by rfl) :
    EvL X T EE (.Call (.Attribute o m apos) [] [] pos) (fun ρ => mt0L NM c m n g (fo ρ)) := by
  obtain ⟨fd, F, hb⟩ := F
  refine ⟨(pg_meth0 (E := E0) ho.pe hc hm (F.mono hj) hr nr hb ht).dimp fun σ H Q h => ?_⟩
  refine (show dG X.K T EE (repE X.K T) fo σ H _ from ?_)
  have h : dG X.K T EE (repL X.K T) (fun ρ => M.bind (fo ρ) fun d => M.bind (M.opt (isC NM c m d)) fun _ => calmM (arity n g [d])) σ H _ := h
  obtain ⟨_, _, _, _, h1, h2, h3⟩ := bindD (rep := repE X.K T) h
  refine ⟨_, _, _, _, h1, h2, h3.imp fun x H1 ⟨d1, γ1, hid, S1, ρ, q1, q3, q4, q5⟩ => ?_⟩
  cases et : isC NM c m d1 S1 with
  | none =>
    rw [bind_of_stuck (opt_none et)] at q5
    exact q5.elim
  | some u =>
    rw [bind_of_ok (opt_some et)] at q5
    obtain ⟨a, dx, gs, ex, ea, el⟩ := isC_ok hT q4 et
    exact ⟨a, dx, gs, ex, ea, el, sp_ofL (E := E0) q5 q1 (.cons q4 .nil)⟩
/-- C(..) -/
def makeE (NM : Nat → List Str) (c n : Nat) (g : List D → M D) (a : M (List D)) : M D := M.bind a fun ds => makeD NM c n g ds
theorem ev_makeA {x : Str} {p : Pos} {g : List D → M D} (F : FnA X.prog X.w X.K X.mg X.base j fa ps (spD X.K T n g)) (hr : Room k X.A) (hj : j + 1 ≤ k) (nr : NoRepr X.A) (hT : T.N = NM) (hM : Mk X.K (T.C c) fa) (hm : X.mg x = some (.ref (T.C c))) (hg : Gl X x)
    (ha : EvA X T EE (e :: es) fs) (hdb : (x == ("__debug__" : Str)) = false := by decide) (he : starEach (e :: es) X.env = (false, eval e X.env) :: starEach es X.env := by rfl) (hpl : (backTo pos (starEach es X.env)).any (·.1) = false := by rfl) :
    EvE X T EE (.Call (.Name x p) (e :: es) [] pos) (fun ρ => makeE NM c n g (fs ρ)) :=
  let ⟨_, F, b⟩ := F
  ev_make hM F hT (hr.mono hj) nr hg hm b ha hdb he hpl
/-- an instance of the class c -/
def isO (c : Nat) (d : D) (_ : Cells) : Option Unit := match d with
  | .obj c' _ => if c' = c then some () else none
  | _ => none
/-- o(e, ..), o an instance -/
def icE (c n : Nat) (g : List D → M D) (o : M D) (a : M (List D)) : M D := M.bind o fun d => M.bind (M.opt (isO c d)) fun _ => M.bind a fun ds => calmM (arity n g (d :: ds))
theorem ev_icA {g : List D → M D} (F : FnA X.prog X.w X.K X.mg X.base j fa ps (spD X.K T n g)) (hr : Room k X.A) (hj : j ≤ k) (nr : NoRepr X.A) (cO : StX.CallO X.K (T.C c) fa) (ho : EvE X T EE o fo) (ha : EvA X T EE (e :: es) fs)
    (ht : eval (.Call o (e :: es) [] pos) X.env = (do callWith pos (← eval o X.env) [] (backTo pos (starEach (e :: es) X.env)) (backToKw pos (keywordEach [] X.env))) := by rfl)
    (he : starEach (e :: es) X.env = (false, eval e X.env) :: starEach es X.env := by rfl) (hpl : (backTo pos (starEach es X.env)).any (·.1) = false := by rfl) :
    EvE X T EE (.Call o (e :: es) [] pos) (fun ρ => icE c n g (fo ρ) (fs ρ)) := by
  obtain ⟨fd, F, hb⟩ := F
  have F := F.mono hj
  refine ⟨⟨fun pins s σ H Q I h => ?_⟩⟩
  have h : dG X.K T EE (repE X.K T) (fun ρ => M.bind (fo ρ) fun d => M.bind (M.opt (isO c d)) fun _ => M.bind (fs ρ) fun ds => calmM (arity n g (d :: ds))) σ H Q := h
  obtain ⟨γ, hid, S, ρ, hold, env, h⟩ := h
  obtain ⟨_, _, _, _, h1, h2, h3⟩ := bindR (rep := repE X.K T) hold env h
  refine Call_ (thn (ho.pe.run pins s σ H _ I ⟨_, _, _, _, h1, h2, h3⟩) fun u s1 ⟨x, H1, I1, rx, d1, γ1, S1, q1, q2, q3, q4, q5⟩ => ?_) ht
  cases et : isO c d1 S1 with
  | none =>
    rw [bind_of_stuck (opt_none et)] at q5
    exact q5.elim
  | some w =>
    rw [bind_of_ok (opt_some et)] at q5
    cases d1 with
    | obj c' l =>
      have hc : c' = c := by
        by_cases hc : c' = c
        · exact hc
        · exact absurd et (by show (if c' = c then some () else none) ≠ some w; rw [if_neg hc]; simp)
      subst hc
      have q4' := q4
      cases q4' with
      | @obj a dx _ _ _ ea z b =>
        obtain rfl : u = Value.ref a := rx
        obtain ⟨_, _, _, _, h1, h2, h3⟩ := bindR (rep := repA X.K T) q1 q3 q5
        refine StX.callO_with (thn (ha.pa.run pos pins s1 σ H1 _ I1 ⟨_, _, _, _, h1, h2, h3⟩) fun us s2 ⟨vs, H2, I2, r, ds, γ2, S2, w1, w2, w3, w4, w5⟩ => ?_) he hpl
        have r4 := w2.rp q4
        have r4' := r4
        cases r4' with
        | obj ea2 z2 b2 =>
          have ih := out_sub _ _ _ _ _ _ ea2
          obtain ⟨ox, od, J, hd⟩ := StX.insC_at I2 (.inr ⟨_, _, ih⟩)
          refine ⟨⟨_, ox, od, J, hd⟩, ?_⟩
          have rr : RpL X.K T γ2 (out γ2 S2 hid H2) (.obj c' l :: ds) (.ref a :: vs) := .cons r4 w4
          have sp : spD X.K T n g (.ref a :: vs) H2 Q E0 := sp_of w5 w1 rr
          have hl : (Value.ref a :: us).length = ps.length := by
            have r2 : Vals (V.ref a :: vs) (Value.ref a :: us) := .cons rfl r
            rw [← r2.length]
            exact F.len _ _ _ _ sp
          have bd := hb s2 (.ref a :: us) I2.kIn (by rw [List.append_nil]; exact hl)
          rw [List.append_nil] at bd
          refine wpAny_call (PySem.W.kco_code I2.kIn J hd cO.at_ cO.fn cO.fi (codeAny_mono (F.run X.A X.stack s2 H2 ⟨.ref a :: us, []⟩ (.ref a :: us) (.ref a :: vs) Q E0 hr nr I2.env0 bd (.cons rfl r) sp) fun res t q => ?_))
          cases res with
          | error er => exact False.elim q
          | ok flow =>
            cases flow with
            | ret u => exact I2.after q
            | next => exact False.elim q
            | brk => exact False.elim q
            | cont => exact False.elim q
    | _ => exact absurd et (by intro z; cases z)
end
/-! ### own operators -/
/-- by classes, else the built-in one -/
def opU : List (Nat × (D → D → M D)) → (D → D → Cells → Option D) → D → D → M D
  | [], b, d1, d2 => fun S => match d1 with
    | .obj _ _ => .stuck
    | _ => M.opt (b d1 d2) S
  | (c, g) :: r, b, d1, d2 => fun S => match d1 with
    | .obj c' _ => if c' = c then g d1 d2 S else opU r b d1 d2 S
    | _ => opU r b d1 d2 S
section
variable {X : Cx} {T : Tab} {k c : Nat} {g : D → D → M D} {f : Value → Value → Sem Value} {b : D → D → Cells → Option D} {r : List (Nat × (D → D → M D))}
theorem op_U0 (h : OpR X f (rO X.K T b)) : OpR X f (rOM X.K T (opU [] b)) := h.dimp fun x y H Q ⟨γ, hid, S, d1, d2, d, S', a1, a2, a3, a4, a5⟩ => by
  have e : M.opt (b d1 d2) S = .ok d S' := by
    cases d1 with
    | obj c l => exact absurd a4 (by intro z; cases z)
    | _ => exact a4
  unfold M.opt at e
  cases q : b d1 d2 S with
  | none => rw [q] at e; cases e
  | some z =>
    rw [q] at e
    cases e
    exact ⟨γ, hid, S, d1, d2, d, a1, a2, a3, q, a5⟩
theorem op_U1 (h1 : OpR X f (rOM X.K T g)) (h2 : OpR X f (rOM X.K T (opU r b))) : OpR X f (rOM X.K T (opU ((c, g) :: r) b)) := by
  intro pins s σ H x y v u Q I rx ry ⟨γ, hid, S, d1, d2, d, S', a1, a2, a3, a4, a5⟩
  have other : opU r b d1 d2 S = .ok d S' → _ := fun q => h2 pins s σ H x y v u Q I rx ry ⟨γ, hid, S, d1, d2, d, S', a1, a2, a3, q, a5⟩
  cases d1 with
  | obj c' l =>
    have a4 : (if c' = c then g (.obj c' l) d2 S else opU r b (.obj c' l) d2 S) = .ok d S' := a4
    by_cases hc : c' = c
    · rw [if_pos hc] at a4
      exact h1 pins s σ H x y v u Q I rx ry ⟨γ, hid, S, _, d2, d, S', a1, a2, a3, a4, a5⟩
    · rw [if_neg hc] at a4
      exact other a4
  | _ => exact other a4
def uM (op : D → M D) (a : M D) : M D := M.bind a fun x => calmM (op x)
def b2M (op : D → D → M D) (a b : M D) : M D := M.bind a fun x => M.bind b fun y => calmM (op x y)
end
/-! ### the facts of own operators -/
/-- a class's own operator: its name, the built-in kinds that may stand at its right -/
structure OpD where
  cls : Str
  name : Str
def OpD.ok (K : PySem.W.Frag) (d : OpD) : Bool := PySem.W.selfFirst K (He.ga K d.cls) && (He.eqO (PySem.W.findIn K (.ref (He.ga K d.cls)) d.name) (some (some (.ref (He.ma K (He.ga K d.cls) d.name)))) &&
  (PySem.W.isFn K (.ref (He.ma K (He.ga K d.cls) d.name)) && (PySem.W.fnIn K (He.ma K (He.ga K d.cls) d.name) && ((PySem.W.isClsIn K (He.ga K d.cls)) && (tyNames.all fun n => PySem.W.notFirst K (He.ga K d.cls) (.type n))))))
structure OwnF (K : PySem.W.Frag) (C f : Addr) (m : Str) : Prop where
  first : PySem.W.selfFirst K C = true
  at_ : PySem.W.findIn K (.ref C) m = some (some (.ref f))
  fn : PySem.W.isFn K (.ref f) = true
  fi : PySem.W.fnIn K f = true
  isc : PySem.W.isClsIn K C = true
  nf : ∀ n ∈ tyNames, PySem.W.notFirst K C (.type n) = true
theorem OpD.ok_ok {K : PySem.W.Frag} {d : OpD} (h : d.ok K = true) : OwnF K (He.ga K d.cls) (He.ma K (He.ga K d.cls) d.name) d.name := by
  unfold OpD.ok at h
  simp only [Bool.and_eq_true] at h
  obtain ⟨h1, h2, h3, h4, h5, h6⟩ := h
  exact ⟨h1, He.eqO_ok h2, h3, h4, h5, fun n hn => List.all_eq_true.mp h6 n hn⟩
theorem OwnF.callO {K : PySem.W.Frag} {C f : Addr} (h : OwnF K C f "__call__") : StX.CallO K C f := ⟨h.at_, h.fn, h.fi⟩
section
variable {X : Cx} {T : Tab} {NM : Nat → List Str} {j k c n : Nat} {g : List D → M D} {fa : Addr} {ps : List Str}
theorem op_eqA (F : FnA X.prog X.w X.K X.mg X.base j fa ps (spD X.K T 2 g)) (hr : Room k X.A) (hj : j ≤ k) (nr : NoRepr X.A) (h : OwnF X.K (T.C c) fa "__eq__") : OpR X (compareOp .Eq) (rOM X.K T (eqOwn c g)) :=
  let ⟨_, F, b⟩ := F
  op_eqOwn h.at_ h.fn h.nf (F.mono hj) hr nr b
/-- the built-in type of a right operand -/
theorem type_at {pins : List (Addr × Obj)} {σ : St} {H : Hp} {s : Shared} {γ hid : List Addr} {S : Cells} {d : D} {v : V} {u : Value} {nm : String} (I : Inv X pins σ H s) (hold : Hold X.K T γ hid S H) (r : Rp X.K T γ (out γ S hid H) d v) (rv : RelV v u) (e : tyName d = some nm) (hl : ∀ k, d ≠ .ref k) : PySem.W.Looks (model X.prog X.w) s.heap (typeOf u) (.type nm) := by
  obtain ⟨P, Z, hP⟩ := kit_of I rv (tyX_of hold r e fun k hk => absurd hk (hl k))
  exact Z.ty _ _ I.kIn hP.1
end
/-- what + and * want besides: the names of the operator, no reflected one -/
structure BinF (K : PySem.W.Frag) (C f : Addr) (o : Operator) : Prop where
  own : OwnF K C f (PySem.dunder o.info.2)
  refl : PySem.W.findIn K (.ref C) (PySem.dunderR o.info.2) = some none
  lf : ∀ n ∈ tyNames, ∃ fo, PySem.W.findIn K (.type n) (PySem.dunder o.info.2) = some fo
  rf : ∀ n ∈ tyNames, ∃ fo, PySem.W.findIn K (.type n) (PySem.dunderR o.info.2) = some fo
  sb : ∀ n ∈ tyNames, PySem.W.subIn K (.type n) (.ref C) = some false
structure BnD where
  cls : Str
  op : Operator
def BnD.ok (K : PySem.W.Frag) (d : BnD) : Bool := (OpD.mk d.cls (PySem.dunder d.op.info.2)).ok K && (He.eqO (PySem.W.findIn K (.ref (He.ga K d.cls)) (PySem.dunderR d.op.info.2)) (some none) &&
  (tyNames.all fun n => (PySem.W.findIn K (.type n) (PySem.dunder d.op.info.2)).isSome && ((PySem.W.findIn K (.type n) (PySem.dunderR d.op.info.2)).isSome && decide (PySem.W.subIn K (.type n) (.ref (He.ga K d.cls)) = some false))))
theorem BnD.ok_ok {K : PySem.W.Frag} {d : BnD} (h : d.ok K = true) : BinF K (He.ga K d.cls) (He.ma K (He.ga K d.cls) (PySem.dunder d.op.info.2)) d.op := by
  unfold BnD.ok at h
  simp only [Bool.and_eq_true, List.all_eq_true, decide_eq_true_eq] at h
  obtain ⟨h1, h2, h3⟩ := h
  exact ⟨OpD.ok_ok h1, He.eqO_ok h2, fun n hn => Option.isSome_iff_exists.mp (h3 n hn).1, fun n hn => Option.isSome_iff_exists.mp (h3 n hn).2.1, fun n hn => (h3 n hn).2.2⟩
section
variable {X : Cx} {T : Tab} {NM : Nat → List Str} {j k c n : Nat} {g : List D → M D} {fa : Addr} {ps : List Str}
/-- a + b, a * b by a's own def; b plain, or of the same class; the answer is data -/
def binOwn (c : Nat) (g : List D → M D) (d1 d2 : D) : M D := fun S => match d1 with
  | .obj c' _ => if c' = c then (match tyName d2, d2 with
      | some _, .ref _ => .stuck
      | some _, .lst _ => .stuck
      | some _, .tup _ => .stuck
      | some _, _ => g [d1, d2] S
      | none, .obj c2 _ => if c2 = c then g [d1, d2] S else .stuck
      | none, _ => .stuck) else .stuck
  | _ => .stuck
theorem cmpBack_rep {K : PySem.W.Frag} {v : V} {u : Value} {Q : Value → Shared → Prop} {s : Shared} (r : RelV v u) (q : Q u s) (hv : ∀ b : Nat, True) : PySem.W.CmpBack Q u s := by
  cases v with
  | ref a => obtain rfl : u = Value.ref a := r; exact q
  | non => obtain rfl : u = Value.none := r; exact q
  | bl b => obtain rfl : u = Value.bool b := r; exact q
  | int i => obtain ⟨t, rfl⟩ := r; exact q
  | str x => obtain ⟨t, rfl⟩ := r; exact q
  | byt x => obtain ⟨t, rfl⟩ := r; exact q
  | flt x => obtain ⟨t, rfl⟩ := r; exact q
  | ty x => obtain rfl : u = Value.type x := r; exact q
theorem op_binA {o : Operator} (F : FnA X.prog X.w X.K X.mg X.base j fa ps (spD X.K T 2 g)) (hr : Room k X.A) (hj : j ≤ k) (nr : NoRepr X.A) (h : BinF X.K (T.C c) fa o) : OpR X (binaryOp o) (rOM X.K T (binOwn c g)) := by
  obtain ⟨fd, F, hb⟩ := F
  have F := F.mono hj
  intro pins s σ H x y v u Q I rx ry hh
  obtain ⟨γ, hid, S, d1, d2, d, S', hold, r1, r2, e, q⟩ := hh
  unfold binOwn at e
  cases d1 with
  | obj c' l =>
    by_cases hc : c' = c
    · subst hc
      simp only [if_true] at e
      have r1' := r1
      cases r1' with
      | @obj p dx _ _ _ a z w =>
        obtain rfl : v = Value.ref p := rx
        obtain ⟨mA, ob, _, _, _, _⟩ := ins_get I.hok (out_sub _ _ _ _ _ _ a)
        obtain ⟨od, at1, _⟩ := ob.look
        obtain ⟨m, fr⟩ := I.fr
        have run : g [.obj c' l, d2] S = .ok d S' → wpAny (model X.prog X.w) X.A (call (.ref fa) [.ref p, u]) (PySem.W.CmpBack (EP X pins σ Q)) X.xe s := fun eg =>
          wpAny_mono (rung (E := E0) F hr nr hb I (vs := [.ref p, y]) (.cons (show RelV (.ref p) (Value.ref p) from rfl) (.cons ry .nil)) ⟨γ, hid, S, [.obj c' l, d2], hold, .cons r1 (.cons r2 .nil), rfl, _, _, eg, fun γ' H' v' b1 b2 b3 => q γ' H' v' b1 b2 b3⟩)
            (fun t s2 z => by
              obtain ⟨v', H2, I2, rv, q2⟩ := z
              exact cmpBack_rep (K := X.K) (v := v') (Q := EP X pins σ Q) rv ⟨v', H2, I2, rv, q2⟩ fun _ => trivial) fun _ _ z => z
        cases d2 with
        | obj c2 l2 =>
          have e : (if c2 = c' then g [.obj c' l, .obj c2 l2] S else .stuck) = .ok d S' := e
          by_cases h2 : c2 = c'
          · rw [if_pos h2] at e
            subst h2
            have r2' := r2
            cases r2' with
            | obj a2 z2 w2 =>
              obtain rfl : u = Value.ref _ := ry
              obtain ⟨mB, ob2, _, _, _, _⟩ := ins_get I.hok (out_sub _ _ _ _ _ _ a2)
              obtain ⟨od2, at2, _⟩ := ob2.look
              exact PySem.W.binop_K fr I.ok.mod.kin at1 at2.type h.own.first h.own.at_ h.own.fn (run e)
          · rw [if_neg h2] at e
            cases e
        | ref n2 => cases e
        | non =>
          obtain ⟨fo, ef⟩ := h.lf "NoneType" (by decide)
          obtain ⟨ro, er⟩ := h.rf "NoneType" (by decide)
          cases r2
          obtain rfl : u = Value.none := ry
          exact PySem.W.ksp_binT fr I.ok.mod.kin at1 rfl h.own.first h.own.at_ h.own.fn h.refl (.inl rfl) ef er (h.sb _ (by decide)) (run e)
        | bl b =>
          obtain ⟨fo, ef⟩ := h.lf "bool" (by decide)
          obtain ⟨ro, er⟩ := h.rf "bool" (by decide)
          cases r2
          obtain rfl : u = Value.bool b := ry
          exact PySem.W.ksp_binT fr I.ok.mod.kin at1 rfl h.own.first h.own.at_ h.own.fn h.refl (.inl rfl) ef er (h.sb _ (by decide)) (run e)
        | int i =>
          obtain ⟨fo, ef⟩ := h.lf "int" (by decide)
          obtain ⟨ro, er⟩ := h.rf "int" (by decide)
          cases r2
          obtain ⟨t, rfl⟩ := ry
          exact PySem.W.ksp_binT fr I.ok.mod.kin at1 rfl h.own.first h.own.at_ h.own.fn h.refl (.inl rfl) ef er (h.sb _ (by decide)) (run e)
        | str i =>
          obtain ⟨fo, ef⟩ := h.lf "str" (by decide)
          obtain ⟨ro, er⟩ := h.rf "str" (by decide)
          cases r2
          obtain ⟨t, rfl⟩ := ry
          exact PySem.W.ksp_binT fr I.ok.mod.kin at1 rfl h.own.first h.own.at_ h.own.fn h.refl (.inl rfl) ef er (h.sb _ (by decide)) (run e)
        | lst i => cases e
        | tup i => cases e
    · simp only [if_neg hc] at e
      cases e
  | _ => cases e
/-- ~a by a's own def -/
def invOwn (c : Nat) (g : List D → M D) (d1 : D) : M D := fun S => match d1 with
  | .obj c' _ => if c' = c then g [d1] S else .stuck
  | _ => .stuck
def rUM (K : PySem.W.Frag) (T : Tab) (op : D → M D) : V → Hp → VK → Prop := fun x H Q => ∃ γ hid S d1 d S', Hold K T γ hid S H ∧ Rp K T γ (out γ S hid H) d1 x ∧ op d1 S = .ok d S' ∧ okV K T γ hid S H d S' Q
theorem un_invA (F : FnA X.prog X.w X.K X.mg X.base j fa ps (spD X.K T 1 g)) (hr : Room k X.A) (hj : j ≤ k) (nr : NoRepr X.A) (h : OwnF X.K (T.C c) fa "__invert__") : UnR X (unaryOp .Invert) (rUM X.K T (invOwn c g)) := by
  obtain ⟨fd, F, hb⟩ := F
  have F := F.mono hj
  intro pins s σ H x v Q I rx hh
  obtain ⟨γ, hid, S, d1, d, S', hold, r1, e, q⟩ := hh
  unfold invOwn at e
  cases d1 with
  | obj c' l =>
    by_cases hc : c' = c
    · subst hc
      simp only [if_true] at e
      have r1' := r1
      cases r1' with
      | @obj p dx _ _ _ a z w =>
        obtain rfl : v = Value.ref p := rx
        obtain ⟨mA, ob, _, _, _, _⟩ := ins_get I.hok (out_sub _ _ _ _ _ _ a)
        obtain ⟨od, at1, _⟩ := ob.look
        obtain ⟨m, fr⟩ := I.fr
        exact PySem.W.ksp_inv fr I.ok.mod.kin at1 h.at_ h.fn (rung (E := E0) F hr nr hb I (us := [.ref p]) (vs := [.ref p]) (.cons rfl .nil) ⟨γ, hid, S, [.obj c' l], hold, .cons r1 .nil, rfl, _, _, e, fun γ' H' v' b1 b2 b3 => q γ' H' v' b1 b2 b3⟩)
    · simp only [if_neg hc] at e
      cases e
  | _ => cases e
theorem ev_unM {EE : XX} {o : UnaryOp} {op : D → M D} {a : Expr} {f : En → M D} {pos : Pos} (ho : UnR X (unaryOp o) (rUM X.K T op)) (ha : EvE X T EE a f) : EvE X T EE (.UnaryOp o a pos) (fun ρ => uM op (f ρ)) := by
  refine ⟨(pe_un ho ha.pe).dimp fun σ H Q h => ?_⟩
  refine (show dG X.K T EE (repE X.K T) f σ H _ from ?_)
  obtain ⟨_, _, _, _, h1, h2, h3⟩ := bindD (rep := repE X.K T) h
  refine ⟨_, _, _, _, h1, h2, h3.imp fun x H1 ⟨d1, γ1, hid, S1, ρ, q1, q3, q4, w5⟩ => ?_⟩
  cases eg : op d1 S1 with
  | err x S => unfold calmM at w5; rw [eg] at w5; exact w5.elim
  | stuck => unfold calmM at w5; rw [eg] at w5; exact w5.elim
  | ok d S' =>
    unfold calmM at w5
    rw [eg] at w5
    exact ⟨γ1, hid, S1, d1, d, S', q1, q4, eg, fun γ' H' v b1 b2 b3 => w5 γ' H' v b1 b2 b3⟩
end
/-- further facts -/
inductive XF where
  | isi (c : Str) (cs : List (Str × Bool))
  | ins (c : Str)
  | ne (c : Str)
def XF.ok (K : PySem.W.Frag) : XF → Bool
  | .isi c cs => (tyNames.all fun n => decide (PySem.W.kitOne K (.type n) (.ref (He.ga K c)) = some false)) && (cs.all fun p => decide (PySem.W.kitOne K (.ref (He.ga K p.1)) (.ref (He.ga K c)) = some p.2))
  | .ins c => He.eqO (PySem.W.findIn K (.ref (He.ga K c)) "__class__") (some (some (.builtin "object.__class__"))) && (He.eqO (PySem.W.specialIn K (.builtin "object.__class__") "__get__") (some (some (.builtin "getset_descriptor.__get__"))) && (decide (PySem.W.takesIn K (.builtin "object.__class__") = some true) && decide (PySem.W.mroIn K (He.ga K c) (.type "object") = some true)))
  | .ne c => He.eqO (PySem.W.findIn K (.ref (He.ga K c)) "__ne__") (some (some (.builtin "object.__ne__"))) && decide (PySem.W.mroIn K (He.ga K c) (.type "object") = some true)
/-- what an instance's type asks -/
structure InsT (K : PySem.W.Frag) (C : Addr) : Prop where
  cl : Cls K C
  ha : PySem.W.findIn K (.ref C) "__class__" = some (some (.builtin "object.__class__"))
  hn : PySem.W.specialIn K (.builtin "object.__class__") "__get__" = some (some (.builtin "getset_descriptor.__get__"))
  tk : PySem.W.takesIn K (.builtin "object.__class__") = some true
  mr : PySem.W.mroIn K C (.type "object") = some true
theorem ins_ok {K : PySem.W.Frag} {c : Str} (cl : Cls K (He.ga K c)) (h : (XF.ins c).ok K = true) : InsT K (He.ga K c) := by
  unfold XF.ok at h
  simp only [Bool.and_eq_true, decide_eq_true_eq] at h
  exact ⟨cl, He.eqO_ok h.1, He.eqO_ok h.2.1, h.2.2.1, h.2.2.2⟩
theorem isi_ok {K : PySem.W.Frag} {c : Str} {cs : List (Str × Bool)} (h : (XF.isi c cs).ok K = true) : (∀ n ∈ tyNames, PySem.W.kitOne K (.type n) (.ref (He.ga K c)) = some false) ∧ ∀ p ∈ cs, PySem.W.kitOne K (.ref (He.ga K p.1)) (.ref (He.ga K c)) = some p.2 := by
  unfold XF.ok at h
  simp only [Bool.and_eq_true, List.all_eq_true, decide_eq_true_eq] at h
  exact h
/-! the observation with own operators -/
def obsW (fa : List He.Fa) (pr : List PrD) (op : List OpD) (bn : List BnD) (xf : List XF) (fn : List DefQ) (K : PySem.W.Frag) : AlQ := ((fa.all fun f => f.ok K) && ((pr.all fun p => prOk K p) && ((op.all fun p => p.ok K) && ((bn.all fun p => p.ok K) && ((xf.all fun p => p.ok K) && fn.all fun d => d.ok K)))), fn.map fun d => fnQ K d)
def SaysW (fa : List He.Fa) (pr : List PrD) (op : List OpD) (bn : List BnD) (xf : List XF) (fn : List DefQ) (K : PySem.W.Frag) : Prop := obsW fa pr op bn xf fn K = valQ fn
def obsWG (n : Nat) (fa : List He.Fa) (pr : List PrD) (op : List OpD) (bn : List BnD) (xf : List XF) (fn : List DefQ) (g : Addr → Option Obj) : AlQ := obsW fa pr op bn xf fn (He.frG g (He.asD g n))
def hookW (n : Nat) (fa : List He.Fa) (pr : List PrD) (op : List OpD) (bn : List BnD) (xf : List XF) (fn : List DefQ) : PySem.W.Hook where
  α := AlQ
  obs := fun s => obsWG n fa pr op bn xf fn s.heap.get?
  val := fun _ => valQ fn
  says := fun _ h => ∃ K : PySem.W.Frag, K.In h ∧ SaysW fa pr op bn xf fn K
  of := fun _ _ e => ⟨_, He.frG_in, e⟩
  keeps := fun _ _ _ ⟨K, hK, c⟩ k => ⟨K, PySem.W.Frag.In.keeps hK k, c⟩
theorem obsWG_eq {n : Nat} {fa : List He.Fa} {pr : List PrD} {op : List OpD} {bn : List BnD} {xf : List XF} {fn : List DefQ} {g : Addr → Option Obj} {s : Shared} (h : ∀ a, g a = s.heap.get? a) : obsWG n fa pr op bn xf fn g = (hookW n fa pr op bn xf fn).obs s := by
  have e : g = s.heap.get? := funext h
  rw [e]
  rfl
section
variable {fa : List He.Fa} {pr : List PrD} {op : List OpD} {bn : List BnD} {xf : List XF} {fn : List DefQ} {K : PySem.W.Frag}
theorem SaysW.all (c : SaysW fa pr op bn xf fn K) : (fa.all fun f => f.ok K) = true ∧ (pr.all fun p => prOk K p) = true ∧ (op.all fun p => p.ok K) = true ∧ (bn.all fun p => p.ok K) = true ∧ (xf.all fun p => p.ok K) = true ∧ (fn.all fun d => d.ok K) = true := by
  have h : ((fa.all fun f => f.ok K) && ((pr.all fun p => prOk K p) && ((op.all fun p => p.ok K) && ((bn.all fun p => p.ok K) && ((xf.all fun p => p.ok K) && fn.all fun d => d.ok K))))) = true := congrArg (fun z : AlQ => z.1) c
  simpa only [Bool.and_eq_true] using h
theorem SaysW.fact (c : SaysW fa pr op bn xf fn K) (i : Nat) {f : He.Fa} (h : fa[i]? = some f := by rfl) : f.ok K = true := List.all_eq_true.mp c.all.1 f (List.mem_of_getElem? h)
theorem SaysW.prop (c : SaysW fa pr op bn xf fn K) (i : Nat) {p : PrD} (h : pr[i]? = some p := by rfl) : PropOf K (He.ga K p.cls) p.name (prA K p) (prG K p) := prOk_ok (List.all_eq_true.mp c.all.2.1 p (List.mem_of_getElem? h))
theorem SaysW.own (c : SaysW fa pr op bn xf fn K) (i : Nat) {p : OpD} (h : op[i]? = some p := by rfl) : OwnF K (He.ga K p.cls) (He.ma K (He.ga K p.cls) p.name) p.name := OpD.ok_ok (List.all_eq_true.mp c.all.2.2.1 p (List.mem_of_getElem? h))
theorem SaysW.bin (c : SaysW fa pr op bn xf fn K) (i : Nat) {p : BnD} (h : bn[i]? = some p := by rfl) : BinF K (He.ga K p.cls) (He.ma K (He.ga K p.cls) (PySem.dunder p.op.info.2)) p.op := BnD.ok_ok (List.all_eq_true.mp c.all.2.2.2.1 p (List.mem_of_getElem? h))
theorem SaysW.more (c : SaysW fa pr op bn xf fn K) (i : Nat) {p : XF} (h : xf[i]? = some p := by rfl) : p.ok K = true := List.all_eq_true.mp c.all.2.2.2.2.1 p (List.mem_of_getElem? h)
theorem SaysW.def_ (c : SaysW fa pr op bn xf fn K) (i : Nat) {d : DefQ} (h : fn[i]? = some d := by rfl) : ∃ fd, FunD K d.name d.qual d.params d.body d.scope [] [] (d.ad K) fd := by
  have e : fn.map (fun d => fnQ K d) = fn.map DefQ.val := congrArg (fun z : AlQ => z.2) c
  have e2 : (fn.map fun d => fnQ K d)[i]? = (fn.map DefQ.val)[i]? := by rw [e]
  rw [List.getElem?_map, List.getElem?_map, h] at e2
  exact DefQ.funD (Option.some.inj e2) (List.all_eq_true.mp c.all.2.2.2.2.2 d (List.mem_of_getElem? h))
end
end DL
end
section
set_option maxHeartbeats 4000000
/-! DLt: a new list times an int; list.count; isinstance of own classes. -/
namespace DL
open PySem PySem.Spec L2
open PyProof.Rows hiding St
/-- an equation that rewriting is to take as a step of its own -/
theorem nrfl {α : Sort u} {a b : α} (h : a = b) : a = b := h
def fldM (NM : Nat → List Str) (cs : List Nat) (f : Str) (e : M D) : M D := M.bind e fun d => M.opt (fldD NM cs f d)
section
variable {X : Cx} {T : Tab} {EE : XX} {a b e o : Expr} {fl : En → M (List D)} {fb fe fo : En → M D} {pos : Pos}
def repD (l : List D) (y : D) : Option (List D) := match y with
  | .int k => if (-(2 ^ 63) ≤ k ∧ k < 2 ^ 63) ∧ l.length * k.toNat ≤ sizeLine then some (List.replicate k.toNat l).flatten else none
  | _ => none
def repL_ (a : M (List D)) (b : M D) : M (List D) := M.bind a fun l => M.bind b fun y => M.opt fun _ => repD l y
theorem len_flat {α : Type} (n : Nat) (l : List α) : (List.replicate n l).flatten.length = n * l.length := PyProof.Rows.lm_len_rep_flat ..
/-- [..] * n, the left one a new list -/
theorem evL_rep (ha : EvL X T EE a fl) (hb : EvE X T EE b fb) : EvL X T EE (.BinOp a .Mult b pos) (fun ρ => repL_ (fl ρ) (fb ρ)) := by
  refine ⟨(pe_op op_rep ha.pe hb.pe).dimp fun σ H Q h => ?_⟩
  refine (show dG X.K T EE (repL X.K T) fl σ H _ from ?_)
  obtain ⟨γ, hid, S, ρ, hold, env, h⟩ := h
  obtain ⟨_, _, _, _, h1, h2, h3⟩ := bindR (rep := repL X.K T) hold env h
  refine ⟨_, _, _, _, h1, h2, h3.imp fun vs H1 ⟨l, γ1, S1, q1, q2, q3, q4, q5⟩ p np => ?_⟩
  obtain ⟨a1, a2, a3⟩ := q1.lay np (.lst vs)
  refine (show dG X.K T EE (repE X.K T) fb σ (upd H1 p (.lst vs)) _ from ?_)
  obtain ⟨_, _, _, _, h1, h2, h3⟩ := bindR (rep := repE X.K T) a1 (q3.mono a2.pre (a2.sameH hid)) (q5.base a2)
  refine ⟨_, _, _, _, h1, h2, h3.imp fun y H2 ⟨d2, γ2, S2, w1, w2, w3, w4, w5⟩ => ?_⟩
  obtain ⟨z, ez, w5⟩ := opt_ok w5
  have hp : H2 p = some (.lst vs) := out_sub _ _ _ _ _ _ (w2.same _ _ (a3 [] (by simp)))
  unfold repD at ez
  split at ez
  · rename_i k
    split at ez
    · rename_i hz
      cases ez
      cases w4
      have hl := q4.2.length
      refine ⟨p, k, vs, rfl, rfl, hp, hz.1.1, hz.1.2, by rw [← hl]; exact hz.2, ?_⟩
      refine w5 γ2 H2 _ w1 (Ext.refl _ _ _) ⟨?_, ?_⟩
      · rw [len_flat, Nat.mul_comm]
        exact hz.2
      · exact (w2.rpl (a2.rpl q4.2)).flatten k.toNat
    · cases ez
  · cases ez
/-- l.count(x), whole numbers -/
def mCount (d : D) (ds : List D) (S : Cells) : Option (D × Cells) := match ds with
  | [.int k] => ((seqL S d).bind ints?).map fun ns => (.int (ns.count k : Nat), S)
  | _ => none
theorem mt_mCount : MtR X "list.count" (rMt X.K T mCount) := by
  intro pins s σ H x vs v us Q I rx rv h
  refine mt_lcount pins s σ H x vs v us Q I rx rv ?_
  obtain ⟨γ, hid, S, d, ds, d', S', hold, r1, r2, e, q⟩ := h
  unfold mCount at e
  split at e
  · rename_i k
    cases e1 : (seqL S d).bind ints? with
    | none => rw [e1] at e; cases e
    | some ns =>
      rw [e1] at e
      cases e
      cases e2 : seqL S d with
      | none => rw [e2] at e1; cases e1
      | some l =>
        rw [e2] at e1
        obtain ⟨a, ws, rfl, s1, _, s2⟩ := seqL_ok hold r1 e2
        obtain ⟨rfl, _⟩ := ints?_rep s2 e1
        cases r2 with
        | cons r3 r4 =>
          cases r3
          cases r4
          exact ⟨a, ns, k, rfl, rfl, s1, q γ H _ hold (Ext.refl _ _ _) (.int _)⟩
  · cases e
/-- isinstance(d, C), C an own class; tab tells of instances of which classes it holds -/
def isiCD (tab : List (Nat × Bool)) (d : D) (S : Cells) : Option D := match d with
  | .obj c _ => (tab.lookup c).map .bl
  | .ref n => if (seqL S (.ref n)).isSome = true then some (.bl false) else none
  | _ => some (.bl false)
def isiCE (tab : List (Nat × Bool)) (a : M D) : M D := M.bind a fun d => M.opt (isiCD tab d)
theorem look_mem {α β : Type} [BEq α] [LawfulBEq α] {k : α} {v : β} : ∀ {l : List (α × β)}, l.lookup k = some v → (k, v) ∈ l
  | (a, b) :: r, h => by
    rw [List.lookup_cons] at h
    cases q : (k == a) with
    | true =>
      rw [q] at h
      cases h
      rw [beq_iff_eq.mp q]
      exact List.mem_cons_self
    | false =>
      rw [q] at h
      exact List.mem_cons_of_mem _ (look_mem h)
theorem ev_isiC {p : Pos} {x2 : Str} {p2 : Pos} {C : Addr} (tab : List (Nat × Bool)) (hk1 : ∀ n ∈ tyNames, PySem.W.kitOne X.K (.type n) (.ref C) = some false) (hk2 : ∀ q ∈ tab, PySem.W.kitOne X.K (.ref (T.C q.1)) (.ref C) = some q.2) (hI : ∀ q ∈ tab, InsT X.K (T.C q.1)) (hg : Gl X "isinstance") (hm : X.mg "isinstance" = none) (hv : bootBuiltins "isinstance" = some (.builtin "isinstance")) (he : EvE X T EE e fe) (hg2 : Gl X x2) (hm2 : X.mg x2 = some (.ref C))
    (hd2 : (x2 == ("__debug__" : Str)) = false := by decide)
    (hs : starEach [e, .Name x2 p2] X.env = (false, eval e X.env) :: starEach [.Name x2 p2] X.env := by rfl) (hpl : (backTo pos (starEach [.Name x2 p2] X.env)).any (·.1) = false := by rfl) (hs3 : starEach [.Name x2 p2] X.env = (false, eval (.Name x2 p2) X.env) :: starEach [] X.env := by rfl) :
    EvE X T EE (.Call (.Name "isinstance" p) [e, .Name x2 p2] [] pos) (fun ρ => isiCE tab (fe ρ)) := by
  have ha : PA X [e, .Name x2 p2] (tCons (dE X.K T EE fe) (tCons (tC (.ref C)) tNil)) := pa_cons he.pe (pa_cons (pe_glob hg2 hm2 rfl hd2) pa_nil hs3) hs
  refine ⟨(pe_callB call_isi hg hm hv ha (by decide) (by decide) hs hpl).dimp fun σ H Q h => ?_⟩
  refine (show dG X.K T EE (repE X.K T) fe σ H _ from ?_)
  obtain ⟨_, _, _, _, h1, h2, h3⟩ := bindD (rep := repE X.K T) h
  refine ⟨_, _, _, _, h1, h2, h3.imp fun v H1 ⟨d, γ1, hid, S1, ρ, q1, q3, q4, q5⟩ => ?_⟩
  obtain ⟨r, er, w5⟩ := opt_ok q5
  have plain : ∀ n, tyName d = some n → (∀ k, d = .ref k → (seqL S1 d).isSome = true) → r = .bl false → rIsi X.K [v, .ref C] H1 Q := fun n en hl er => by
    subst er
    exact ⟨v, .ref C, .type n, .ref C, false, rfl, .own C, tyX_of q1 q4 en hl, hk1 n (tyName_mem en), w5 γ1 H1 _ q1 (Ext.refl _ _ _) (.bl _)⟩
  cases d with
  | obj c l =>
    have er : (tab.lookup c).map D.bl = some r := er
    cases ek : tab.lookup c with
    | none => rw [ek] at er; cases er
    | some k =>
      rw [ek] at er
      cases er
      cases q4 with
      | @obj a' dx _ _ _ ea z b =>
        exact ⟨_, .ref C, .ref (T.C c), .ref C, k, rfl, .own C, .base (.ins (out_sub _ _ _ _ _ _ ea) (hI _ (look_mem ek)).cl (hI _ (look_mem ek)).ha (hI _ (look_mem ek)).hn (hI _ (look_mem ek)).tk (hI _ (look_mem ek)).mr), hk2 _ (look_mem ek), w5 γ1 H1 _ q1 (Ext.refl _ _ _) (.bl _)⟩
  | ref n =>
    have er : (if (seqL S1 (.ref n)).isSome = true then some (D.bl false) else none) = some r := er
    split at er
    · rename_i hz
      cases er
      exact plain _ rfl (fun k ek => by cases ek; exact hz) rfl
    · cases er
  | _ => exact plain _ rfl (fun k ek => by cases ek) (by cases er; rfl)
def par3S (i j k : Nat) (f : En → M (List D)) : SM := bindS f fun l ρ S => match l with
  | [d, e, g] => .nx (((ρ.set i (some d)).set j (some e)).set k (some g)) S
  | _ => .stuck
/-- a, b, c = x, y, z (plain local names) -/
theorem es_par3 {i j l : Nat} {x y z : Str} {a b c : Expr} {fs : En → M (List D)} {px py pz pt : Pos} {kt k2 : Nat} {pt2 : Pos} (hc : X.calm = true) (hN : X.N.Nodup) (hi : X.N[i]? = some x) (hj : X.N[j]? = some y) (hl : X.N[l]? = some z) (hij : i ≠ j) (hil : i ≠ l) (hjl : j ≠ l)
    (hx : X.env.scope.names.lookup x = some .local) (hy : X.env.scope.names.lookup y = some .local) (hz : X.env.scope.names.lookup z = some .local) (ha : EvA X T EE [a, b, c] fs)
    (hw : swappedStores [.Tuple [.Name x px, .Name y py, .Name z pz] kt pt] (.Tuple [a, b, c] k2 pt2) X.env = pure (some [x, y, z]))
    (hs : swapsWithSole [.Tuple [.Name x px, .Name y py, .Name z pz] kt pt] (.Tuple [a, b, c] k2 pt2) pos.line X.env = pure false := by rfl) :
    EvS X T EE (.Assign [.Tuple [.Name x px, .Name y py, .Name z pz] kt pt] (.Tuple [a, b, c] k2 pt2) pos) (par3S i j l fs) := by
  refine ⟨(ps_par3 hc hN hi hj hl hij hil hjl hx hy hz ha.pa hw hs).dimp fun Dn σ H h => ?_⟩
  refine (show dG X.K T EE (repA X.K T) fs σ H _ from ?_)
  obtain ⟨_, _, _, _, h1, h2, h3⟩ := bindSD (rep := repA X.K T) h
  refine ⟨_, _, _, _, h1, h2, h3.imp fun vs H1 ⟨l, γ1, hid, S1, ρ, q1, q3, q4, q5⟩ => ?_⟩
  cases q4 with
  | nil => exact q5.elim
  | cons r1 r =>
    cases r with
    | nil => exact q5.elim
    | cons r2 r =>
      cases r with
      | nil => exact q5.elim
      | cons r3 r =>
        cases r with
        | nil => exact ⟨_, _, _, rfl, q5 γ1 H1 _ q1 (Ext.refl _ _ _) (((q3.set _ r1).set _ r2).set _ r3)⟩
        | cons r4 r => exact q5.elim
end
end DL
end
section
set_option maxHeartbeats 4000000
/-! DLu: a test by a class's own ==. -/
namespace DL
open PySem PySem.Spec L2
open PyProof.Rows hiding St
def b2MT (op : D → D → M D) (a b : M D) : M Bool := M.bind a fun x => M.bind b fun y => M.bind (calmM (op x y)) fun d => M.opt fun _ => asB d
section
variable {X : Cx} {T : Tab} {EE : XX} {a b : Expr} {fa fb : En → M D} {pos : Pos}
theorem ev_cmpTM {o : CmpOp} {op : D → D → M D} (ho : OpR X (compareOp o) (rOM X.K T op)) (hm : behindInMarks o b = false) (ha : EvE X T EE a fa) (hb : EvE X T EE b fb) :
    EvT X T EE (.Compare a [o] [b] pos) (fun ρ => b2MT op (fa ρ) (fb ρ)) := by
  refine ⟨(pt_cmpR ho ha.pe hb.pe hm).dimp fun σ H Q h => ?_⟩
  refine (show dG X.K T EE (repE X.K T) fa σ H _ from ?_)
  obtain ⟨γ, hid, S, ρ, hold, env, h⟩ := h
  obtain ⟨_, _, _, _, h1, h2, h3⟩ := bindR (rep := repE X.K T) hold env h
  refine ⟨_, _, _, _, h1, h2, h3.imp fun x H1 ⟨d1, γ1, S1, q1, q2, q3, q4, q5⟩ => ?_⟩
  obtain ⟨_, _, _, _, h1, h2, h3⟩ := bindR (rep := repE X.K T) q1 q3 q5
  refine ⟨_, _, _, _, h1, h2, h3.imp fun y H2 ⟨d2, γ2, S2, w1, w2, w3, w4, w5⟩ => ?_⟩
  cases eg : op d1 d2 S2 with
  | err x S => unfold M.bind calmM at w5; rw [eg] at w5; exact w5.elim
  | stuck => unfold M.bind calmM at w5; rw [eg] at w5; exact w5.elim
  | ok d S' =>
    unfold M.bind calmM at w5
    rw [eg] at w5
    have w5 : resG X.K T EE repB γ2 hid S2 H2 ρ σ (M.opt (fun _ => asB d) S') Q := w5
    unfold M.opt at w5
    cases d with
    | bl k =>
      refine ⟨γ2, hid, S2, d1, d2, .bl k, S', w1, w2.rp q4, w4, eg, fun γ' H' v c1 c2 c3 => ?_⟩
      cases c3 with
      | bl b => exact ⟨_, rfl, w5 γ' H' _ c1 c2 rfl⟩
    | _ => exact w5.elim
end
end DL
end
section
set_option maxHeartbeats 4000000
/-! DLv: methods of texts: split (a new list), join, zfill. -/
namespace DL
open PySem PySem.Spec L2
open PyProof.Rows hiding St
def rMtL (K : PySem.W.Frag) (T : Tab) (op : D → List D → Cells → Option (List D)) : V → List V → Hp → VK → Prop := fun x vs H Q => ∃ γ hid S d ds l, Hold K T γ hid S H ∧ Rp K T γ (out γ S hid H) d x ∧ RpL K T γ (out γ S hid H) ds vs ∧ op d ds S = some l ∧ okL K T γ hid S H l S Q
def mthL_ (tn : String) (op : D → List D → Cells → Option (List D)) (a : M D) (x : M (List D)) : M (List D) := M.bind a fun d => M.bind (M.opt (isTy tn d)) fun _ => M.bind x fun ds => M.opt (op d ds)
section
variable {X : Cx} {T : Tab} {EE : XX} {o e : Expr} {es : List Expr} {fo : En → M D} {fs : En → M (List D)} {name : Str} {apos cpos : Pos} {tn id : String} {op : D → List D → Cells → Option (List D)}
theorem evL_meth (pa : PlainAttrs tn) (slot : Slot tn name id) (hty : typeOf (.builtin id) = pure (.type "method_descriptor")) (hm : MtR X id (rMtL X.K T op)) (ho : EvE X T EE o fo) (ha : EvA X T EE (e :: es) fs)
    (hbase : attributeBase o name X.env (eval o X.env) = eval o X.env := by rfl)
    (hfew : ((backTo cpos (starEach (e :: es) X.env)).all (fun x => !x.1) && (backToKw cpos (keywordEach [] X.env)).all (fun x => x.1.isSome)
      && decide ((e :: es).length + ([] : List Keyword).length + (if ([] : List Keyword).isEmpty then 0 else 1) < 30)) = true := by rfl)
    (hline : (apos.endLine == cpos.line) = true := by rfl) (hs : starEach (e :: es) X.env = (false, eval e X.env) :: starEach es X.env := by rfl) (hplain : (backTo cpos (starEach es X.env)).any (·.1) = false := by rfl) :
    EvL X T EE (.Call (.Attribute o name apos) (e :: es) [] cpos) (fun ρ => mthL_ tn op (fo ρ) (fs ρ)) := by
  refine ⟨(pe_bm pa slot hty hm ho.pe ha.pa hbase hfew hline hs hplain).dimp fun σ H Q h => ?_⟩
  refine (show dG X.K T EE (repE X.K T) fo σ H _ from ?_)
  obtain ⟨γ, hid, S, ρ, hold, env, h⟩ := h
  obtain ⟨_, _, _, _, h1, h2, h3⟩ := bindR (rep := repE X.K T) hold env h
  refine ⟨_, _, _, _, h1, h2, h3.imp fun x H1 ⟨d1, γ1, S1, q1, q2, q3, q4, q5⟩ => ?_⟩
  cases et : isTy tn d1 S1 with
  | none =>
    rw [bind_of_stuck (opt_none et)] at q5
    exact q5.elim
  | some u =>
    rw [bind_of_ok (opt_some et)] at q5
    refine ⟨isTy_ok q1 q4 et, ?_⟩
    obtain ⟨_, _, _, _, h1, h2, h3⟩ := bindR (rep := repA X.K T) q1 q3 q5
    refine ⟨_, _, _, _, h1, h2, h3.imp fun vs H2 ⟨ds, γ2, S2, w1, w2, w3, w4, w5⟩ => ?_⟩
    obtain ⟨l, e, w5⟩ := opt_ok w5
    exact ⟨γ2, hid, S2, d1, ds, l, w1, w2.rp q4, w4, e, fun γ' H' vs a1 a2 z a3 => w5 γ' H' vs a1 a2 ⟨z, a3⟩⟩
/-- x.split(y) -/
def mSplit (d : D) (ds : List D) (_ : Cells) : Option (List D) := match d, ds with
  | .str a, [.str b] => if (b.length == 0) = false ∧ a.length + 2 ≤ sizeLine ∧ (Txt.split a b).length ≤ sizeLine ∧ (∀ y ∈ Txt.split a b, y.length ≤ sizeLine) then some ((Txt.split a b).map .str) else none
  | _, _ => none
theorem rpl_strs {K : PySem.W.Frag} {γ : List Addr} {F : Hp} : ∀ ys : List Str, (∀ y ∈ ys, y.length ≤ sizeLine) → RpL K T γ F (ys.map .str) (ys.map V.str)
  | [], _ => .nil
  | y :: ys, h => .cons (.str _ (h y List.mem_cons_self)) (rpl_strs ys fun z hz => h z (List.mem_cons_of_mem _ hz))
theorem mt_mSplit : MtR X "str.split" (rMtL X.K T mSplit) := by
  intro pins s σ H x vs v us Q I rx rv h
  refine mt_split pins s σ H x vs v us Q I rx rv ?_
  obtain ⟨γ, hid, S, d, ds, l, hold, r1, r2, e, q⟩ := h
  unfold mSplit at e
  split at e
  · rename_i a b
    split at e
    · rename_i hz
      cases e
      cases r1
      cases r2 with
      | cons r3 r4 =>
        cases r3
        cases r4
        exact ⟨a, b, rfl, rfl, hz.1, hz.2.1, fun p hp => q γ H _ hold (Ext.refl _ _ _) (by rw [List.length_map]; exact hz.2.2.1) (rpl_strs _ hz.2.2.2) p hp⟩
    · cases e
  · cases e
/-- x.zfill(n) -/
def mZfill (d : D) (ds : List D) (S : Cells) : Option (D × Cells) := match d, ds with
  | .str a, [.int i] => if PadOk i = true ∧ (Txt.zfill a i).length ≤ sizeLine then some (.str (Txt.zfill a i), S) else none
  | _, _ => none
theorem mt_mZfill : MtR X "str.zfill" (rMt X.K T mZfill) := by
  intro pins s σ H x vs v us Q I rx rv h
  refine mt_zfill pins s σ H x vs v us Q I rx rv ?_
  obtain ⟨γ, hid, S, d, ds, d', S', hold, r1, r2, e, q⟩ := h
  unfold mZfill at e
  split at e
  · rename_i a i
    split at e
    · rename_i hz
      cases e
      cases r1
      cases r2 with
      | cons r3 r4 =>
        cases r3
        cases r4
        exact ⟨a, i, rfl, rfl, hz.1, q γ H _ hold (Ext.refl _ _ _) (.str _ hz.2)⟩
    · cases e
  · cases e
def strs? : List D → Option (List Str)
  | [] => some []
  | .str i :: r => (strs? r).map (i :: ·)
  | _ => none
theorem strs?_map (ns : List Str) : strs? (ns.map .str) = some ns := by
  induction ns with
  | nil => rfl
  | cons n ns ih => rw [List.map_cons]; show (strs? _).map _ = _; rw [ih]; rfl
theorem strs?_rep {K : PySem.W.Frag} {γ : List Addr} {F : Hp} : ∀ {ds : List D} {vs : List V} {ns : List Str}, RpL K T γ F ds vs → strs? ds = some ns → vs = ns.map V.str
  | [], _, ns, h, e => by
    cases h
    cases e
    rfl
  | .str i :: ds, _, ns, h, e => by
    cases h with
    | cons a b =>
      cases a
      have e' : (strs? ds).map (i :: ·) = some ns := e
      cases q : strs? ds with
      | none => rw [q] at e'; cases e'
      | some ms =>
        rw [q] at e'
        cases e'
        rw [strs?_rep b q]
        rfl
/-- x.join(l) -/
def mJoin (d : D) (ds : List D) (S : Cells) : Option (D × Cells) := match d, ds with
  | .str a, [y] => match (seqL S y).bind strs? with
    | some ys => if (ys.map (·.length)).sum + ys.length * a.length ≤ 16777216 ∧ (Txt.join a ys).length ≤ sizeLine then some (.str (Txt.join a ys), S) else none
    | none => none
  | _, _ => none
theorem mt_mJoin : MtR X "str.join" (rMt X.K T mJoin) := by
  intro pins s σ H x vs v us Q I rx rv h
  refine mt_join pins s σ H x vs v us Q I rx rv ?_
  obtain ⟨γ, hid, S, d, ds, d', S', hold, r1, r2, e, q⟩ := h
  unfold mJoin at e
  split at e
  · rename_i a y
    split at e
    · rename_i ys e1
      split at e
      · rename_i hz
        cases e
        cases e2 : seqL S y with
        | none => rw [e2] at e1; cases e1
        | some l =>
          rw [e2] at e1
          cases r1
          cases r2 with
          | cons r3 r4 =>
            cases r4
            obtain ⟨p, ws, rfl, s1, _, s2⟩ := seqL_ok hold r3 e2
            have := strs?_rep s2 e1
            subst this
            exact ⟨a, p, ys, rfl, rfl, .inl s1, hz.1, q γ H _ hold (Ext.refl _ _ _) (.str _ hz.2)⟩
      · cases e
    · cases e
  · cases e
/-- int(text) -/
def dIntS (ds : List D) (_ : Cells) : Option D := match ds with
  | [.str a] => if a.length ≤ 640 then (intText? a).map .int else none
  | _ => none
theorem ct_intS : CallR X (.type "int") (rC X.K T dIntS) := call_int_str.dimp fun vs H Q h => by
  obtain ⟨γ, hid, S, ds, d, hold, r, e, q⟩ := h
  unfold dIntS at e
  split at e
  · rename_i a
    split at e
    · rename_i hz
      cases en : intText? a with
      | none => rw [en] at e; cases e
      | some n =>
        rw [en] at e
        cases e
        obtain ⟨v, rfl, r1⟩ := rep1 r
        cases r1
        exact ⟨a, n, rfl, en, hz, q γ H _ hold (Ext.refl _ _ _) (.int _)⟩
    · cases e
  · cases e
/-- int(x) of a text, a whole number, a truth value -/
def dIntU (ds : List D) (S : Cells) : Option D := match ds with
  | [.str a] => dIntS [.str a] S
  | ds => dInt ds S
theorem ct_intU : CallR X (.type "int") (rC X.K T dIntU) := by
  intro pins s σ H vs us Q I rv h
  obtain ⟨γ, hid, S, ds, d, hold, r, e, q⟩ := h
  unfold dIntU at e
  split at e
  · exact ct_intS (T := T) pins s σ H vs us Q I rv ⟨γ, hid, S, _, d, hold, r, e, q⟩
  · exact ct_int (T := T) pins s σ H vs us Q I rv ⟨γ, hid, S, _, d, hold, r, e, q⟩
/-- a text in a text -/
def inS (i j : Str) : Bool := !(Builtin.Str.occurrences j i 0 j.length 1).isEmpty
def dInU (d1 d2 : D) (S : Cells) : Option D := match d1, d2 with
  | .str i, .str j => some (.bl (inS i j))
  | d1, d2 => dIn d1 d2 S
theorem op_dInU (hu : X.A.units + 65 < cLine) : OpR X (compareOp .In) (rO X.K T dInU) := by
  intro pins s σ H x y v u Q I rx ry h
  obtain ⟨γ, hid, S, d1, d2, d, hold, r1, r2, e, q⟩ := h
  unfold dInU at e
  split at e
  · rename_i i j
    cases e
    cases r1
    cases r2
    exact op_in_str pins s σ H _ _ v u Q I rx ry ⟨i, j, rfl, rfl, q γ H _ hold (Ext.refl _ _ _) (.bl _)⟩
  · exact op_dIn (T := T) hu pins s σ H x y v u Q I rx ry ⟨γ, hid, S, _, _, d, hold, r1, r2, e, q⟩
def dNotInU (d1 d2 : D) (S : Cells) : Option D := match d1, d2 with
  | .str i, .str j => some (.bl (!inS i j))
  | d1, d2 => dNotIn d1 d2 S
theorem op_dNotInU (hu : X.A.units + 65 < cLine) : OpR X (compareOp .NotIn) (rO X.K T dNotInU) := by
  intro pins s σ H x y v u Q I rx ry h
  obtain ⟨γ, hid, S, d1, d2, d, hold, r1, r2, e, q⟩ := h
  unfold dNotInU at e
  split at e
  · rename_i i j
    cases e
    cases r1
    cases r2
    exact op_notin_str pins s σ H _ _ v u Q I rx ry ⟨i, j, rfl, rfl, q γ H _ hold (Ext.refl _ _ _) (.bl _)⟩
  · exact op_dNotIn (T := T) hu pins s σ H x y v u Q I rx ry ⟨γ, hid, S, _, _, d, hold, r1, r2, e, q⟩
/-- str(x) of a whole number -/
def dStr (ds : List D) (_ : Cells) : Option D := match ds with
  | [.int i] => if i.natAbs.log2 < 1920 then some (.str (toString i)) else none
  | _ => none
theorem ct_str : CallR X (.type "str") (rC X.K T dStr) := call_str_int.dimp fun vs H Q h => by
  obtain ⟨γ, hid, S, ds, d, hold, r, e, q⟩ := h
  unfold dStr at e
  split at e
  · rename_i i
    split at e
    · rename_i hz
      cases e
      obtain ⟨v, rfl, r1⟩ := rep1 r
      cases r1
      have hl : (toString i : Str).length ≤ sizeLine := Nat.le_trans (by have := shown_int_le (i := i) hz; rwa [PyData.shown_int] at this) (by decide : 1921 ≤ sizeLine)
      exact ⟨i, rfl, hz, q γ H _ hold (Ext.refl _ _ _) (.str _ hl)⟩
    · cases e
  · cases e
end
end DL
end
section
set_option maxHeartbeats 4000000
/-! DLx: defs that call themselves (by fuel), list.extend, x += y, divmod, own !=. -/
namespace DL
open PySem PySem.Spec L2
open PyProof.Rows hiding St
section
variable {P : Program} {w : World} {K : PySem.W.Frag} {mg : Str → Option Value} {base : Heap} {T : Tab}
/-- a def at fuel 0: nothing is promised -/
theorem fnB_stk {x : Str} {k n : Nat} {ps : List Str} {params : Arguments} {body : List Stmt} {scope : Scope} {dvs : List V} {kws : List (Str × V)}
    (F : ∃ fd, FunD K x x params body scope dvs kws (He.ga K x) fd) (hm : mg x = some (.ref (He.ga K x))) (hb : ∀ fd, FunD K x x params body scope dvs kws (He.ga K x) fd → Binds K fd ps []) :
    FnB P w K mg base k x ps (spD K T n fun _ => stuck) :=
  fnB F hm hb fun _ _ => ⟨fun _ _ _ _ ⟨_, _, _, _, _, _, _, _, _, e, _⟩ => (nomatch e), fun _ _ _ _ _ _ _ _ _ _ _ _ _ _ ⟨_, _, _, _, _, _, _, _, _, e, _⟩ => (nomatch e)⟩
theorem fnB_stkL {x : Str} {k n : Nat} {ps : List Str} {params : Arguments} {body : List Stmt} {scope : Scope} {dvs : List V} {kws : List (Str × V)}
    (F : ∃ fd, FunD K x x params body scope dvs kws (He.ga K x) fd) (hm : mg x = some (.ref (He.ga K x))) (hb : ∀ fd, FunD K x x params body scope dvs kws (He.ga K x) fd → Binds K fd ps []) :
    FnB P w K mg base k x ps (spL K T n fun _ => stuck) :=
  fnB F hm hb fun _ _ => ⟨fun _ _ _ _ ⟨_, _, _, _, _, _, _, _, _, e, _⟩ => (nomatch e), fun _ _ _ _ _ _ _ _ _ _ _ _ _ _ ⟨_, _, _, _, _, _, _, _, _, e, _⟩ => (nomatch e)⟩
theorem fnB_lv {P : Program} {w : World} {K : PySem.W.Frag} {mg : Str → Option Value} {base : Heap} {x : Str} {j k : Nat} {ps : List Str} {sp : Sp} (e : j = k) (F : FnB P w K mg base j x ps sp) : FnB P w K mg base k x ps sp := e ▸ F
end
/-! ### x += y -/
section
variable {X : Cx} {T : Tab}
def dAddI (d1 d2 : D) (_ : Cells) : Option D := match d1, d2 with
  | .int i, .int j => some (.int (i + j))
  | _, _ => none
theorem iop_dAdd : OpR X (inplaceOp .Add) (rO X.K T dAddI) := by
  intro pins s σ H x y v u Q I rx ry h
  obtain ⟨γ, hid, S, d1, d2, d, hold, r1, r2, e, q⟩ := h
  unfold dAddI at e
  split at e
  · cases r1
    cases r2
    cases e
    exact iop_add pins s σ H _ _ v u Q I rx ry ⟨_, _, rfl, rfl, q.same hold (.int _)⟩
  · cases e
theorem iop_dSub : OpR X (inplaceOp .Sub) (rO X.K T dSub) := by
  intro pins s σ H x y v u Q I rx ry h
  obtain ⟨γ, hid, S, d1, d2, d, hold, r1, r2, e, q⟩ := h
  unfold dSub at e
  split at e
  · cases r1
    cases r2
    cases e
    exact iop_sub pins s σ H _ _ v u Q I rx ry ⟨_, _, rfl, rfl, q.same hold (.int _)⟩
  · cases e
/-! ### list.extend -/
theorem list_extendW (l : Addr) (items : Array Value) (n : Nat) (b : Addr) (items2 : Array Value) (n2 : Nat) (dd2 : Option Addr) (sl2 : Array (Option Value)) (hs0 : ¬(!items.isEmpty && Builtin.List.listTooLong (items.size + items2.size)) = true) (hs1 : items.size ≤ sizeLine) (hs2 : items.size + items2.size ≤ sizeLine + 1) :
    Meets (Builtin.«list.extend» ⟨[.ref l, .ref b], []⟩) (fun _ R s => s.heap.get? l = some { cls := .type "list", dict := none, data := .seq items n, slots := #[] } ∧ s.heap.get? b = some { cls := .type "list", dict := dd2, data := .seq items2 n2, slots := sl2 } ∧ R (.ok (.ret Value.none)) { s with heap := s.heap.update l (Obj.mapSeq fun x => x ++ items2), toks := s.toks }) :=
  .of_wp fun prog w A R s h => by
    obtain ⟨hp, g, d, tk, os⟩ := s; obtain ⟨hl, hb, h⟩ := h; have f1 := AutoSeq1.idx_int; have f2 := AutoSeq1.sub_tuple_tuple; have f3 := AutoSeq1.sub_list_list; have f4 := AutoSeq1.sub_tuple_list; have f5 := AutoSeq1.sub_list_tuple
    have hz' : (items ++ items2).size ≤ sizeLine + 1 := by rw [Array.size_append]; exact hs2
    wp_walk using (wpAny_updateSeq hl rfl (hz := hs1) (_hz' := hz')), wpAny_loadPart' hl, wpAny_loadPart' hb; exact ⟨_, rfl, h⟩
theorem tuple_extendW (l : Addr) (items : Array Value) (n : Nat) (b : Addr) (items2 : Array Value) (n2 : Nat) (dd2 : Option Addr) (sl2 : Array (Option Value)) (hs0 : ¬(!items.isEmpty && Builtin.List.listTooLong (items.size + items2.size)) = true) (hs1 : items.size ≤ sizeLine) (hs2 : items.size + items2.size ≤ sizeLine + 1) :
    Meets (Builtin.«list.extend» ⟨[.ref l, .ref b], []⟩) (fun _ R s => s.heap.get? l = some { cls := .type "list", dict := none, data := .seq items n, slots := #[] } ∧ s.heap.get? b = some { cls := .type "tuple", dict := dd2, data := .seq items2 n2, slots := sl2 } ∧ R (.ok (.ret Value.none)) { s with heap := s.heap.update l (Obj.mapSeq fun x => x ++ items2), toks := s.toks }) :=
  .of_wp fun prog w A R s h => by
    obtain ⟨hp, g, d, tk, os⟩ := s; obtain ⟨hl, hb, h⟩ := h; have f1 := AutoSeq1.idx_int; have f2 := AutoSeq1.sub_tuple_tuple; have f3 := AutoSeq1.sub_list_list; have f4 := AutoSeq1.sub_tuple_list; have f5 := AutoSeq1.sub_list_tuple
    have hz' : (items ++ items2).size ≤ sizeLine + 1 := by rw [Array.size_append]; exact hs2
    wp_walk using (wpAny_updateSeq hl rfl (hz := hs1) (_hz' := hz')), wpAny_loadPart' hl, wpAny_loadPart' hb; exact ⟨_, rfl, h⟩
theorem mt_extendW : MtR X "list.extend" (fun x vs H Q => ∃ l b xs zs, x = .ref l ∧ vs = [.ref b] ∧ H l = some (.lst xs) ∧ (SqL X.K H b zs ∨ SqT X.K H b zs) ∧ xs.length + zs.length ≤ sizeLine ∧ Q .non (upd H l (.lst (xs ++ zs)))) := by
  intro pins s σ H x vs v us Q I rx rv h
  obtain ⟨l, b, xs, zs, rfl, rfl, hH, hB, hz, q⟩ := h
  cases rx
  obtain ⟨u, rfl, ru⟩ := rv.one
  cases ru
  obtain ⟨z, its, n, r, hl, e⟩ := I.lstM hH
  rcases hB with hB | hB
  · obtain ⟨i2, r2, ⟨⟨c2, d2, t2, s2⟩, n2, e2, k2, _, m2⟩, _⟩ := I.list hB
    simp only at k2 m2
    subst k2 m2
    have hl2 := r2.length
    have hsz : its.toArray.size + i2.toArray.size ≤ sizeLine := by rw [List.size_toArray, List.size_toArray]; omega
    have hlong : ¬ (!its.toArray.isEmpty && Builtin.List.listTooLong (its.toArray.size + i2.toArray.size)) = true := by
      rw [notLongL hsz, Bool.and_false]
      exact Bool.false_ne_true
    refine call_meets F.slot_list_extend ⟨_, e, rfl⟩ F.entry_list_extend (F.args_list_extend_2 _ _)
      (list_extendW l its.toArray n b i2.toArray n2 d2 s2 hlong (by rw [List.size_toArray]; omega) (by omega)) ⟨e, e2, ?_⟩
    refine ⟨.non, _, I.lset (its' := its ++ i2) hH e (by simp) (r.append r2) ?_, rfl, q⟩
    rw [List.length_append]
    omega
  · obtain ⟨i2, r2, ⟨⟨c2, d2, t2, s2⟩, e2, k2, n2, m2⟩, _⟩ := I.tuple hB
    simp only at k2 m2
    subst k2 m2
    have hl2 := r2.length
    have hsz : its.toArray.size + i2.toArray.size ≤ sizeLine := by rw [List.size_toArray, List.size_toArray]; omega
    have hlong : ¬ (!its.toArray.isEmpty && Builtin.List.listTooLong (its.toArray.size + i2.toArray.size)) = true := by
      rw [notLongL hsz, Bool.and_false]
      exact Bool.false_ne_true
    refine call_meets F.slot_list_extend ⟨_, e, rfl⟩ F.entry_list_extend (F.args_list_extend_2 _ _)
      (tuple_extendW l its.toArray n b i2.toArray n2 d2 s2 hlong (by rw [List.size_toArray]; omega) (by omega)) ⟨e, e2, ?_⟩
    refine ⟨.non, _, I.lset (its' := its ++ i2) hH e (by simp) (r.append r2) ?_, rfl, q⟩
    rw [List.length_append]
    omega
/-- a list or a tuple -/
def seqLT (S : Cells) (d : D) : Option (List D) := match d with
  | .tup l => some l
  | d => seqL S d
def mExtend (d : D) (ds : List D) (S : Cells) : Option (D × Cells) := match ds, liveL d S with
  | [x], some (n, l) => match seqLT S x with
    | some m => if flatL m = true ∧ l.length + m.length ≤ sizeLine then some (.non, S.set n ⟨true, .lst (l ++ m)⟩) else none
    | none => none
  | _, _ => none
theorem mt_mExtend : MtR X "list.extend" (rMt X.K T mExtend) := by
  intro pins s σ H x vs v us Q I rx rv h
  refine mt_extendW pins s σ H x vs v us Q I rx rv ?_
  obtain ⟨γ, hid, S, d, ds, d', S', hold, r1, r2, e, q⟩ := h
  unfold mExtend at e
  split at e
  · rename_i y n l el
    split at e
    · rename_i m em
      split at e
      · rename_i hz
        cases e
        obtain ⟨w, rfl, ry⟩ := rep1 r2
        obtain ⟨a, ws, rfl, h1, z, g, fin⟩ := liveL_ok hold r1 el
        have fin2 : ∀ zs, RpL X.K T γ (out γ S hid H) m zs → Q .non (upd H a (.lst (ws ++ zs))) := fun zs g2 => by
          refine fin (l ++ m) _ .non .non Q ?_ (g.append (RpL.toflat _ _ hz.1 g2)) .non q
          rw [List.length_append]
          exact hz.2
        have hws := g.length
        by_cases ht : ∃ k, y = .tup k
        · obtain ⟨k, rfl⟩ := ht
          cases em
          obtain ⟨p2, vs2, rfl, s2, z2, g2⟩ := seqT_ok ry rfl
          have := g2.length
          exact ⟨a, p2, ws, vs2, rfl, rfl, h1, .inr s2, by omega, fin2 _ g2⟩
        · have em : seqL S y = some m := by
            cases y with
            | tup k => exact absurd ⟨k, rfl⟩ ht
            | _ => exact em
          obtain ⟨p2, vs2, rfl, s2, z2, g2⟩ := seqL_ok hold ry em
          have := g2.length
          exact ⟨a, p2, ws, vs2, rfl, rfl, h1, .inl s2, by omega, fin2 _ g2⟩
      · cases e
    · cases e
  · cases e
/-! ### divmod -/
def dDivmod (ds : List D) (_ : Cells) : Option D := match ds with
  | [.int i, .int j] => if 0 < j ∧ j.natAbs.log2 < 9000 then some (.tup [.int (i / j), .int (i % j)]) else none
  | _ => none
theorem cb_divmod : CallR X (.builtin "divmod") (rC X.K T dDivmod) := call_divmodW.dimp fun vs H Q h => by
  obtain ⟨γ, hid, S, ds, d, hold, r, e, q⟩ := h
  unfold dDivmod at e
  split at e
  · rename_i i j
    split at e
    · rename_i hz
      cases e
      obtain ⟨v, u, rfl, k1, k2⟩ := rep2 r
      cases k1
      cases k2
      exact ⟨i, j, rfl, ⟨hz.1, PyProof.noPylong_of_log2 hz.2⟩, q.tup hold (by simp [sizeLine_eq]) (.cons (.int _) (.cons (.int _) .nil))⟩
    · cases e
  · cases e
end
/-! ### own != -/
section
variable {X : Cx} {T : Tab} {j k c : Nat} {g : List D → M D} {fa : Addr} {fd : FuncData} {ps : List Str}
/-- what != asks of a class with an own == alone -/
structure NeF (K : PySem.W.Frag) (C : Addr) : Prop where
  ne : PySem.W.findIn K (.ref C) "__ne__" = some (some (.builtin "object.__ne__"))
  mro : PySem.W.mroIn K C (.type "object") = some true
theorem ne_ok {K : PySem.W.Frag} {c : Str} (h : (XF.ne c).ok K = true) : NeF K (He.ga K c) := by
  unfold XF.ok at h
  simp only [Bool.and_eq_true, decide_eq_true_eq] at h
  exact ⟨He.eqO_ok h.1, h.2⟩
theorem ifBound_ne {M : Model} {A : Around} {E : Value → Shared → Prop} {s : Shared} {K : PySem.W.Frag} {x C : Addr} {ox : Obj} {od : Option Obj} {args : List Value} {Q : Option Value → Shared → Prop} (X : K.In s.heap) (I : PySem.W.InstAt s.heap x ox C od) (hs : PySem.W.findIn K (.ref C) "__ne__" = some (some (.builtin "object.__ne__")))
    (h : wpAny M A (call (.builtin "object.__ne__") (.ref x :: args)) (fun v => Q (some v)) E s) : wpAny M A (callSpecialIfBound? (.ref x) "__ne__" args) Q E s := by
  simp only [callSpecialIfBound?, bindSpecialIfBound?]
  refine wpAny_holding (wpAny_bind (wpAny_bind (wpAny_bind (I.type.here ((PySem.W.looks_findIn X hs).here ?_)))))
  refine wpAny_bind (wpAny_askSetting (wpAny_ite ?_))
  have fin : wpAny M A (call (.builtin "object.__ne__") ([.ref x] ++ args) >>= fun v => pure (some v)) Q E s := wpAny_bind (wpAny_mono h (fun v s' h' => wpAny_pure h') fun _ _ h' => h')
  split
  · exact wpAny_bind (wpAny_of_eq (F.cmp_object.ne.bind _) (wpAny_pure (by exact fin)))
  · exact wpAny_tryCatch (wpAny_bind (wpAny_of_eq (F.cmp_object.ne.bind _) (wpAny_pure (by exact fin))))
open Builtin in
/-- the def behind == gives a truth value, under the call of object.__ne__ -/
theorem call_ne {prog : Program} {w : World} {A : Around} {E : Value → Shared → Prop} {s : Shared} {K : PySem.W.Frag} {x C f : Addr} {ox : Obj} {od : Option Obj} {b : Value} {Q : Value → Shared → Prop} (hu : A.in1.units < cLine) (X : K.In s.heap) (I : PySem.W.InstAt s.heap x ox C od) (hm : PySem.W.mroIn K C (.type "object") = some true)
    (hs : PySem.W.findIn K (.ref C) "__eq__" = some (some (.ref f))) (hf : PySem.W.isFn K (.ref f) = true)
    (h : wpAny (model prog w) A.in1 (call (.ref f) [.ref x, b]) (fun v s' => ∃ k, v = .bool k ∧ Q (.bool (!k)) s') E s) : wpAny (model prog w) A (call (.builtin "object.__ne__") [.ref x, b]) Q E s := by
  refine wpAny_call (codeAny_call_builtin F.cmp_object.ne.plain F.cmpEntry_ne (PySem.W.check_slot F.cmpKind_ne F.cmpSplit_ne (I.type.andThen (PySem.W.looks_mroIn X hm)) (F.cmpArgs_ne _ _) ?_))
  unfold Builtin.«object.__ne__»
  refine wpAny_bind (m := slotArgs "__ne__" 1 _) (wpAny_pure ?_)
  refine wpAny_bind (m := cRoomFor _ _) (wpAny_cRoomFor hu ?_)
  refine wpAny_bind (m := callSpecialIfBound? (.ref x) (Str.ofString "__eq__") _) (PySem.W.ifBound_K X I hs hf (wpAny_mono h (fun r s' hq => ?_) fun _ _ y => y))
  obtain ⟨k, rfl, hq⟩ := hq
  refine wpAny_bind (wpAny_truthy_bool ?_)
  exact wpAny_pure hq
/-- a != b by a's own == -/
def neOwn (c : Nat) (g : List D → M D) (d1 d2 : D) : M D := M.bind (eqOwn c g d1 d2) fun d => match d with
  | .bl b => kon (.bl (!b))
  | _ => stuck
theorem op_neOwn (hs : PySem.W.findIn X.K (.ref (T.C c)) "__eq__" = some (some (.ref fa))) (hf : PySem.W.isFn X.K (.ref fa) = true) (hn0 : ∀ n ∈ tyNames, PySem.W.notFirst X.K (T.C c) (.type n) = true) (hN : NeF X.K (T.C c))
    (F : FnG X.prog X.w X.K X.mg X.base k fa fd ps (spD X.K T 2 g)) (hr : Room (k + 1) X.A) (nr : NoRepr X.A) (hb : Binds X.K fd ps []) : OpR X (compareOp .NotEq) (rOM X.K T (neOwn c g)) := by
  intro pins s σ H x y v u Q I rx ry h
  obtain ⟨γ, hid, S, d1, d2, d0, S0, hold, r1, r2, e0, q0⟩ := h
  obtain ⟨d, S', e, e0⟩ : ∃ d S', eqOwn c g d1 d2 S = .ok d S' ∧ (match d with
      | .bl b => kon (.bl (!b))
      | _ => stuck : M D) S' = .ok d0 S0 := by
    unfold neOwn M.bind at e0
    cases q : eqOwn c g d1 d2 S with
    | ok d S' => rw [q] at e0; exact ⟨d, S', rfl, e0⟩
    | err x S' => rw [q] at e0; cases e0
    | stuck => rw [q] at e0; cases e0
  unfold eqOwn at e
  split at e
  · rename_i c' l
    split at e
    · rename_i hc
      subst hc
      split at e
      · rename_i b S2 eg
        have hd : d = .bl b ∧ S' = S2 := by
          split at e
          · cases e
          · cases e; exact ⟨rfl, rfl⟩
          · split at e
            · cases e; exact ⟨rfl, rfl⟩
            · cases e
          · cases e
        obtain ⟨rfl, rfl⟩ := hd
        have e0 : kon (.bl (!b)) S' = .ok d0 S0 := e0
        cases e0
        cases r1 with
        | @obj p dx _ _ _ a z w =>
          obtain rfl : v = Value.ref p := rx
          obtain ⟨mA, ob, _, _, _, _⟩ := ins_get I.hok (out_sub _ _ _ _ _ _ a)
          obtain ⟨od, at1, _⟩ := ob.look
          obtain ⟨m, fr⟩ := I.fr
          have sp : spD X.K T 2 g [.ref p, y] H (fun w H' => w = .bl b ∧ Q (.bl (!b)) H') E0 := ⟨γ, hid, S, [.obj c' l, d2], hold, .cons (.obj a z w) (.cons r2 .nil), rfl, _, _, eg, fun γ' H' v' b1 b2 b3 => by
              cases b3
              exact ⟨rfl, q0 γ' H' _ b1 b2 (.bl _)⟩⟩
          have run : wpAny (model X.prog X.w) X.A.in1 (call (.ref fa) [.ref p, u]) (fun t s2 => ∃ k, t = .bool k ∧ EP X pins σ Q (.bool (!k)) s2) X.xe s := by
            have hl : ([Value.ref p, u]).length = ps.length := by
              have r3 : Vals [V.ref p, y] [Value.ref p, u] := .cons rfl (.cons ry .nil)
              rw [← r3.length]
              exact F.len _ _ _ _ sp
            have bd := hb s [.ref p, u] I.kIn (by rw [List.append_nil]; exact hl)
            rw [List.append_nil] at bd
            refine wpAny_call (codeAny_mono (F.run X.A.in1 X.stack s H ⟨[.ref p, u], []⟩ [.ref p, u] [.ref p, y] _ E0 hr.in1 nr I.env0.in1 bd (.cons rfl (.cons ry .nil)) sp) fun res t q => ?_)
            cases res with
            | error er => exact False.elim q
            | ok flow =>
              cases flow with
              | ret u =>
                obtain ⟨v', H2, I3, rv, rfl, q3⟩ := I.after q
                obtain rfl : u = Value.bool b := rv
                exact ⟨b, rfl, .bl (!b), H2, I3, rfl, q3⟩
              | next => exact False.elim q
              | brk => exact False.elim q
              | cont => exact False.elim q
          have hty : ∃ tb, PySem.W.Looks (model X.prog X.w) s.heap (typeOf u) tb ∧ PySem.W.notFirst X.K (T.C c') tb = true := by
            split at e
            · cases e
            · rename_i hnr en
              obtain ⟨P, Z, hP⟩ := kit_of I ry (tyX_of hold r2 en fun k hk => absurd hk (hnr k))
              exact ⟨_, Z.ty _ _ I.kIn hP.1, hn0 _ (tyName_mem en)⟩
            · split at e
              · rename_i hc2
                subst hc2
                cases r2 with
                | obj a2 z2 w2 =>
                  obtain rfl : u = Value.ref _ := ry
                  obtain ⟨mB, ob2, _, _, _, _⟩ := ins_get I.hok (out_sub _ _ _ _ _ _ a2)
                  obtain ⟨od2, at2, _⟩ := ob2.look
                  exact ⟨_, at2.type, by unfold PySem.W.notFirst; simp⟩
              · cases e
            · cases e
          obtain ⟨tb, lk, nf⟩ := hty
          have hu0 : X.A.units < cLine := hr.units0
          have hu1 : X.A.in1.units < cLine := by have := hr.units; show X.A.units + 1 < cLine; omega
          have kin := I.kIn
          have one : wpAny (model X.prog X.w) X.A (tryCompare (.ref p) "__ne__" u) (fun r s' => ∃ v, r = some v ∧ EP X pins σ Q v s') X.xe s := by
            unfold tryCompare
            refine wpAny_bind (ifBound_ne kin at1 hN.ne (call_ne hu1 kin at1 hN.mro hs hf (wpAny_mono run (fun t s2 z => ?_) fun _ _ z => z)))
            obtain ⟨k, rfl, z⟩ := z
            exact ⟨k, rfl, wpAny_pure ⟨_, rfl, z⟩⟩
          show wpAny (model X.prog X.w) X.A (richCompare .NotEq (.ref p) u) (EP X pins σ Q) X.xe s
          unfold richCompare
          simp only [oneThing_ref, cmpInfo_NotEq]
          refine wpAny_holding (wpAny_bind (wpAny_cRoomFor hu0 ?_))
          refine wpAny_bind (at1.type.here (wpAny_bind (lk.here ?_)))
          split
          · rename_i q
            have e : PySem.W.subIn X.K tb (.ref (T.C c')) = some false := by
              rcases Bool.or_eq_true_iff.mp nf with e | e
              · rw [beq_iff_eq.mp e] at q; simp at q
              · exact beq_iff_eq.mp e
            refine wpAny_bind ((PySem.W.looks_subIn kin e).here ?_)
            simp only [Bool.false_eq_true, if_false]
            refine wpAny_bind (wpAny_mono one (fun r s' z => ?_) fun _ _ e => e)
            obtain ⟨v, rfl, hq⟩ := z
            exact wpAny_pure hq
          · refine wpAny_bind (wpAny_pure ?_)
            simp only [Bool.false_eq_true, if_false]
            refine wpAny_bind (wpAny_mono one (fun r s' z => ?_) fun _ _ e => e)
            obtain ⟨v, rfl, hq⟩ := z
            exact wpAny_pure hq
      · cases e
    · cases e
  · cases e
theorem op_neA (F : FnA X.prog X.w X.K X.mg X.base j fa ps (spD X.K T 2 g)) (hr : Room k X.A) (hj : j + 1 ≤ k) (nr : NoRepr X.A) (h : OwnF X.K (T.C c) fa "__eq__") (hN : NeF X.K (T.C c)) : OpR X (compareOp .NotEq) (rOM X.K T (neOwn c g)) :=
  let ⟨_, F, b⟩ := F
  op_neOwn h.at_ h.fn h.nf hN F (hr.mono hj) nr b
end
end DL
end
section
set_option maxHeartbeats 4000000
/-! DW: readings by what is wanted behind them (rules for rewriting from above). -/
namespace DL
open PySem PySem.Spec L2
open PyProof.Rows hiding St
section
variable {α β γ : Type}
def U.wp (r : DL.R α) (Q : α → Cells → Prop) (E : Xc → Cells → Prop) : Prop := match r with
  | .ok a S => Q a S
  | .err x S => E x S
  | .stuck => False
def U.wpo (o : Option α) (S : Cells) (Q : α → Cells → Prop) : Prop := match o with
  | some a => Q a S
  | none => False
def U.wpc (o : Option (α × Cells)) (Q : α → Cells → Prop) : Prop := match o with
  | some (a, S) => Q a S
  | none => False
def U.wif (b : Bool) (A B : Prop) : Prop := (b = true → A) ∧ (b = false → B)
def U.wo (o : Out) (N : En → Cells → Prop) (Rt : D → Cells → Prop) (E : Xc → En → Cells → Prop) : Prop := match o with
  | .nx ρ S => N ρ S
  | .rt d S => Rt d S
  | .er x ρ S => E x ρ S
  | _ => False
abbrev noE : Xc → Cells → Prop := fun _ _ => False
theorem U.wp_ok {r : DL.R α} {a : α} {S : Cells} (h : U.wp r (fun b T => b = a ∧ T = S) noE) : r = .ok a S := by
  cases r with
  | ok b T => obtain ⟨rfl, rfl⟩ := h; rfl
  | err x T => exact h.elim
  | stuck => exact h.elim
theorem U.wp_of {r : DL.R α} {a : α} {S : Cells} {Q : α → Cells → Prop} {E : Xc → Cells → Prop} (e : r = .ok a S) (h : Q a S) : U.wp r Q E := by rw [e]; exact h
theorem U.wp_mono {r : DL.R α} {Q Q' : α → Cells → Prop} {E E' : Xc → Cells → Prop} (h : U.wp r Q E) (hq : ∀ a S, Q a S → Q' a S) (he : ∀ x S, E x S → E' x S) : U.wp r Q' E' := by
  cases r with
  | ok b T => exact hq _ _ h
  | err x T => exact he _ _ h
  | stuck => exact h.elim
theorem U.wp_ex {r : DL.R α} {Q : α → Cells → Prop} (h : U.wp r Q noE) : ∃ a S, r = .ok a S ∧ Q a S := by
  cases r with
  | ok b T => exact ⟨b, T, rfl, h⟩
  | err x T => exact h.elim
  | stuck => exact h.elim
theorem U.wo_mono {o : Out} {N N' : En → Cells → Prop} {R R' : D → Cells → Prop} {E E' : Xc → En → Cells → Prop} (h : U.wo o N R E) (hn : ∀ ρ S, N ρ S → N' ρ S) (hr : ∀ d S, R d S → R' d S) (he : ∀ x ρ S, E x ρ S → E' x ρ S) : U.wo o N' R' E' := by
  cases o with
  | nx ρ S => exact hn _ _ h
  | rt d S => exact hr _ _ h
  | er x ρ S => exact he _ _ _ h
  | bk _ _ => exact h.elim
  | ct _ _ => exact h.elim
  | stuck => exact h.elim
section
variable {a b c : M D} {S : Cells} {ρ : En} {Q : D → Cells → Prop} {QL : List D → Cells → Prop} {QB : Bool → Cells → Prop} {E : Xc → Cells → Prop}
theorem U.w_ok {a : α} {Q : α → Cells → Prop} : U.wp (.ok a S) Q E = Q a S := nrfl rfl
theorem U.w_some {a : α} {Q : α → Cells → Prop} : U.wpo (some a) S Q = Q a S := nrfl rfl
theorem U.w_somec {a : α} {Q : α → Cells → Prop} : U.wpc (some (a, S)) Q = Q a S := nrfl rfl
theorem U.w_bind {f : M α} {g : α → M β} {Q : β → Cells → Prop} : U.wp (M.bind f g S) Q E = U.wp (f S) (fun a S => U.wp (g a S) Q E) E := by
  unfold M.bind
  cases f S <;> rfl
theorem U.w_opt {f : Cells → Option α} {Q : α → Cells → Prop} : U.wp (M.opt f S) Q E = U.wpo (f S) S Q := by
  unfold M.opt
  cases f S <;> rfl
theorem U.w_chg {f : Cells → Option (α × Cells)} {Q : α → Cells → Prop} : U.wp (M.chg f S) Q E = U.wpc (f S) Q := by
  unfold M.chg
  cases f S <;> rfl
theorem U.w_kon {d : D} : U.wp (kon d S) Q E = Q d S := nrfl rfl
theorem U.w_calm {f : M α} {Q : α → Cells → Prop} : U.wp (calmM f S) Q E = U.wp (f S) Q noE := by
  unfold calmM
  cases f S <;> rfl
theorem U.w_b2 {op : D → D → Cells → Option D} : U.wp (b2 op a b S) Q E = U.wp (a S) (fun x S => U.wp (b S) (fun y S => U.wpo (op x y S) S Q) E) E := by
  unfold b2
  simp only [U.w_bind, U.w_opt]
theorem U.w_b2L {op : D → D → Cells → Option (List D)} : U.wp (b2L op a b S) QL E = U.wp (a S) (fun x S => U.wp (b S) (fun y S => U.wpo (op x y S) S QL) E) E := by
  unfold b2L
  simp only [U.w_bind, U.w_opt]
theorem U.w_b1 {op : D → Cells → Option D} : U.wp (b1 op a S) Q E = U.wp (a S) (fun x S => U.wpo (op x S) S Q) E := by
  unfold b1
  simp only [U.w_bind, U.w_opt]
/-- a truth value is wanted -/
def wB (Q : Bool → Cells → Prop) (d : D) (S : Cells) : Prop := match d with
  | .bl b => Q b S
  | _ => False
theorem wB_bl {k : Bool} : wB QB (.bl k) S = QB k S := nrfl rfl
theorem U.w_asB {d : D} : U.wpo (asB d) S QB = wB QB d S := by cases d <;> rfl
theorem U.w_b2T {op : D → D → Cells → Option D} : U.wp (b2T op a b S) QB E = U.wp (a S) (fun x S => U.wp (b S) (fun y S => U.wpo (op x y S) S (wB QB)) E) E := by
  unfold b2T
  simp only [U.w_bind, U.w_opt]
  congr 1
  funext x S
  congr 1
  funext y S
  cases op x y S with
  | none => rfl
  | some d => exact U.w_asB
theorem U.w_if {k : Bool} {x y : M α} {Q : α → Cells → Prop} : U.wp ((if k = true then x else y) S) Q E = U.wif k (U.wp (x S) Q E) (U.wp (y S) Q E) := by
  cases k <;> simp [U.wif]
theorem U.w_chE {op op' : D → D → Cells → Option D} : U.wp (chE op op' a b c S) Q E = U.wp (a S) (fun x S => U.wp (b S) (fun y S => U.wpo (op x y S) S (wB fun k S => U.wif k (U.wp (c S) (fun z S => U.wpo (op' y z S) S Q) E) (Q (.bl false) S))) E) E := by
  unfold chE
  simp only [U.w_bind, U.w_opt]
  congr 1
  funext x S
  congr 1
  funext y S
  cases op x y S with
  | none => rfl
  | some d =>
    cases d with
    | bl k =>
      show U.wp ((if k = true then M.bind c fun z => M.opt (op' y z) else kon (D.bl false)) S) Q E = U.wif k _ _
      rw [U.w_if]
      simp only [U.w_bind, U.w_opt]
      rfl
    | _ => rfl
theorem U.w_chT {op op' : D → D → Cells → Option D} : U.wp (chT op op' a b c S) QB E = U.wp (chE op op' a b c S) (wB QB) E := by
  unfold chT
  simp only [U.w_bind, U.w_opt, U.w_asB]
theorem U.w_not {x : M Bool} : U.wp (notT x S) QB E = U.wp (x S) (fun c S => QB (!c) S) E := by
  unfold notT
  rw [U.w_bind]
  rfl
theorem U.w_val : U.wp (valT a S) QB E = U.wp (a S) (fun d S => U.wpo (truD d S) S QB) E := by
  unfold valT
  simp only [U.w_bind, U.w_opt]
theorem U.w_notE : U.wp (notE a S) Q E = U.wp (a S) (wB fun c S => Q (.bl (!c)) S) E := by
  unfold notE
  simp only [U.w_bind, U.w_opt, U.w_asB]
  rfl
theorem U.w_ifE {k : M Bool} : U.wp (ifE k a b S) Q E = U.wp (k S) (fun k S => U.wif k (U.wp (a S) Q E) (U.wp (b S) Q E)) E := by
  unfold ifE
  simp only [U.w_bind, U.w_if]
theorem U.w_ifL {k : M Bool} {x y : M (List D)} : U.wp (ifL k x y S) QL E = U.wp (k S) (fun k S => U.wif k (U.wp (x S) QL E) (U.wp (y S) QL E)) E := by
  unfold ifL
  simp only [U.w_bind, U.w_if]
theorem U.w_andM {x y : M Bool} : U.wp (andM x y S) QB E = U.wp (x S) (fun k S => U.wif k (U.wp (y S) QB E) (QB false S)) E := by
  unfold andM
  simp only [U.w_bind, U.w_if]
  rfl
theorem U.w_orM {x y : M Bool} : U.wp (orM x y S) QB E = U.wp (x S) (fun k S => U.wif k (QB true S) (U.wp (y S) QB E)) E := by
  unfold orM
  simp only [U.w_bind, U.w_if]
  rfl
theorem U.w_andE : U.wp (andE a b S) Q E = U.wp (a S) (wB fun k S => U.wif k (U.wp (b S) Q E) (Q (.bl false) S)) E := by
  unfold andE
  simp only [U.w_bind, U.w_opt, U.w_asB, U.w_if]
  rfl
theorem U.w_orE : U.wp (orE a b S) Q E = U.wp (a S) (wB fun k S => U.wif k (Q (.bl true) S) (U.wp (b S) Q E)) E := by
  unfold orE
  simp only [U.w_bind, U.w_opt, U.w_asB, U.w_if]
  rfl
theorem U.w_nil : U.wp (nilA S) QL E = QL [] S := nrfl rfl
theorem U.w_cons {x : M D} {y : M (List D)} : U.wp (consM x y S) QL E = U.wp (x S) (fun d S => U.wp (y S) (fun l S => QL (d :: l) S) E) E := by
  unfold consM
  simp only [U.w_bind]
  rfl
/-- few items -/
def few (l : List D) : Prop := l.length ≤ sizeLine
theorem U.w_tup {x : M (List D)} : U.wp (tupE x S) Q E = U.wp (x S) (fun l S => few l ∧ Q (.tup l) S) E := by
  unfold tupE
  simp only [U.w_bind, U.w_opt]
  congr 1
  funext l S
  by_cases h : l.length ≤ sizeLine
  · rw [if_pos h]; exact propext ⟨fun q => ⟨h, q⟩, fun q => q.2⟩
  · rw [if_neg h]; exact propext ⟨fun q => q.elim, fun q => absurd q.1 h⟩
theorem U.w_lst {x : M (List D)} : U.wp (lstE x S) QL E = U.wp (x S) (fun l S => few l ∧ QL l S) E := by
  unfold lstE
  simp only [U.w_bind, U.w_opt]
  congr 1
  funext l S
  by_cases h : l.length ≤ sizeLine
  · rw [if_pos h]; exact propext ⟨fun q => ⟨h, q⟩, fun q => q.2⟩
  · rw [if_neg h]; exact propext ⟨fun q => q.elim, fun q => absurd q.1 h⟩
theorem few0 : few [] := Nat.zero_le _
theorem few1 {x1 : D} : few [x1] := show 1 ≤ sizeLine by decide
theorem few2 {x1 x2 : D} : few [x1, x2] := show 2 ≤ sizeLine by decide
theorem few3 {x1 x2 x3 : D} : few [x1, x2, x3] := show 3 ≤ sizeLine by decide
theorem few4 {x1 x2 x3 x4 : D} : few [x1, x2, x3, x4] := show 4 ≤ sizeLine by decide
theorem few5 {x1 x2 x3 x4 x5 : D} : few [x1, x2, x3, x4, x5] := show 5 ≤ sizeLine by decide
theorem few6 {x1 x2 x3 x4 x5 x6 : D} : few [x1, x2, x3, x4, x5, x6] := show 6 ≤ sizeLine by decide
theorem few7 {x1 x2 x3 x4 x5 x6 x7 : D} : few [x1, x2, x3, x4, x5, x6, x7] := show 7 ≤ sizeLine by decide
theorem few8 {x1 x2 x3 x4 x5 x6 x7 x8 : D} : few [x1, x2, x3, x4, x5, x6, x7, x8] := show 8 ≤ sizeLine by decide
theorem few9 {x1 x2 x3 x4 x5 x6 x7 x8 x9 : D} : few [x1, x2, x3, x4, x5, x6, x7, x8, x9] := show 9 ≤ sizeLine by decide
theorem few10 {x1 x2 x3 x4 x5 x6 x7 x8 x9 x10 : D} : few [x1, x2, x3, x4, x5, x6, x7, x8, x9, x10] := show 10 ≤ sizeLine by decide
theorem U.w_frz {x : M (List D)} : U.wp (frzE x S) Q E = U.wp (x S) (fun l S => Q (.lst l) S) E := by
  unfold frzE
  simp only [U.w_bind]
  rfl
theorem U.w_new {l : List D} : U.wp (newC l S) Q E = (flatL l = true ∧ Q (.ref S.length) (S ++ [⟨true, .lst l⟩])) := by
  unfold newC M.chg
  by_cases h : flatL l = true
  · simp only [if_pos h]; exact propext ⟨fun q => ⟨h, q⟩, fun q => q.2⟩
  · simp only [if_neg h]; exact propext ⟨fun q => q.elim, fun q => absurd q.1 h⟩
theorem U.w_cel {x : M (List D)} : U.wp (celE x S) Q E = U.wp (x S) (fun l S => flatL l = true ∧ Q (.ref S.length) (S ++ [⟨true, .lst l⟩])) E := by
  unfold celE
  simp only [U.w_bind, U.w_new]
theorem U.w_cb {op : List D → Cells → Option D} {x : M (List D)} : U.wp (cbE op x S) Q E = U.wp (x S) (fun l S => U.wpo (op l S) S Q) E := by
  unfold cbE
  simp only [U.w_bind, U.w_opt]
theorem U.w_cbL {op : List D → Cells → Option (List D)} {x : M (List D)} : U.wp (cbL op x S) QL E = U.wp (x S) (fun l S => U.wpo (op l S) S QL) E := by
  unfold cbL
  simp only [U.w_bind, U.w_opt]
/-- a def with n arguments -/
theorem U.w_ar {n : Nat} {g : List D → M α} {l : List D} {Q : α → Cells → Prop} (h : l.length = n) : U.wp (arity n g l S) Q E = U.wp (g l S) Q E := by
  unfold arity
  rw [if_pos h]
theorem U.w_call {n : Nat} {g : List D → M D} {x : M (List D)} : U.wp (callE n g x S) Q E = U.wp (x S) (fun l S => U.wp (arity n g l S) Q noE) E := by
  unfold callE
  simp only [U.w_bind, U.w_calm]
theorem U.w_callL {n : Nat} {g : List D → M (List D)} {x : M (List D)} : U.wp (callL n g x S) QL E = U.wp (x S) (fun l S => U.wp (arity n g l S) QL noE) E := by
  unfold callL
  simp only [U.w_bind, U.w_calm]
theorem U.w_ar0 {g : List D → M α} {Q : α → Cells → Prop} : U.wp (arity 0 g [] S) Q E = U.wp (g [] S) Q E := U.w_ar rfl
theorem U.w_ar1 {g : List D → M α} {Q : α → Cells → Prop} {x1 : D} : U.wp (arity 1 g [x1] S) Q E = U.wp (g [x1] S) Q E := U.w_ar rfl
theorem U.w_ar2 {g : List D → M α} {Q : α → Cells → Prop} {x1 x2 : D} : U.wp (arity 2 g [x1, x2] S) Q E = U.wp (g [x1, x2] S) Q E := U.w_ar rfl
theorem U.w_ar3 {g : List D → M α} {Q : α → Cells → Prop} {x1 x2 x3 : D} : U.wp (arity 3 g [x1, x2, x3] S) Q E = U.wp (g [x1, x2, x3] S) Q E := U.w_ar rfl
theorem U.w_ar4 {g : List D → M α} {Q : α → Cells → Prop} {x1 x2 x3 x4 : D} : U.wp (arity 4 g [x1, x2, x3, x4] S) Q E = U.wp (g [x1, x2, x3, x4] S) Q E := U.w_ar rfl
theorem U.w_ar5 {g : List D → M α} {Q : α → Cells → Prop} {x1 x2 x3 x4 x5 : D} : U.wp (arity 5 g [x1, x2, x3, x4, x5] S) Q E = U.wp (g [x1, x2, x3, x4, x5] S) Q E := U.w_ar rfl
theorem U.w_ar6 {g : List D → M α} {Q : α → Cells → Prop} {x1 x2 x3 x4 x5 x6 : D} : U.wp (arity 6 g [x1, x2, x3, x4, x5, x6] S) Q E = U.wp (g [x1, x2, x3, x4, x5, x6] S) Q E := U.w_ar rfl
variable {QO : Option Int → Cells → Prop}
theorem U.w_noO : U.wp (noO S) QO E = QO none S := nrfl rfl
theorem U.w_smO : U.wp (smO a S) QO E = U.wp (a S) (fun d S => U.wpo (partD d) S QO) E := by
  unfold smO
  simp only [U.w_bind, U.w_opt]
theorem U.w_sl {i j : M (Option Int)} : U.wp (slE a i j S) Q E = U.wp (a S) (fun d S => U.wp (i S) (fun i S => U.wp (j S) (fun j S => U.wpo (slD d i j S) S Q) E) E) E := by
  unfold slE
  simp only [U.w_bind, U.w_opt]
theorem U.w_slL {i j : M (Option Int)} : U.wp (slLL a i j S) QL E = U.wp (a S) (fun d S => U.wp (i S) (fun i S => U.wp (j S) (fun j S => U.wpo (slL d i j S) S QL) E) E) E := by
  unfold slLL
  simp only [U.w_bind, U.w_opt]
theorem U.w_rev : U.wp (revL a S) QL E = U.wp (a S) (fun d S => U.wpo ((seqL S d).map List.reverse) S QL) E := by
  unfold revL
  simp only [U.w_bind, U.w_opt]
theorem U.w_step : U.wp (stepL a b S) QL E = U.wp (a S) (fun d S => U.wp (b S) (fun y S => U.wpo (sliceStepD d y S) S QL) E) E := by
  unfold stepL
  simp only [U.w_bind, U.w_opt]
theorem U.w_isi {tab : String → Bool} : U.wp (isiE tab a S) Q E = U.wp (a S) (fun d S => U.wpo (isiD tab d S) S Q) E := by
  unfold isiE
  simp only [U.w_bind, U.w_opt]
theorem U.w_sets : U.wp (setsL a S) QL E = U.wp (a S) (fun d S => U.wpo (setSortD d S) S QL) E := by
  unfold setsL
  simp only [U.w_bind, U.w_opt]
theorem U.w_lrg {x : M (List D)} : U.wp (lrgL x S) QL E = U.wp (x S) (fun l S => U.wpo (rangeA l) S QL) E := by
  unfold lrgL
  simp only [U.w_bind, U.w_opt]
theorem U.w_mth {tn : String} {op : D → List D → Cells → Option (D × Cells)} {x : M (List D)} : U.wp (mthE tn op a x S) Q E = U.wp (a S) (fun d S => U.wpo (isTy tn d S) S fun _ S => U.wp (x S) (fun l S => U.wpc (op d l S) Q) E) E := by
  unfold mthE
  simp only [U.w_bind, U.w_opt, U.w_chg]
theorem U.w_mth0 {tn : String} {op : D → List D → Cells → Option (D × Cells)} : U.wp (mth0 tn op a S) Q E = U.wp (a S) (fun d S => U.wpo (isTy tn d S) S fun _ S => U.wpc (op d [] S) Q) E := by
  unfold mth0
  simp only [U.w_bind, U.w_opt, U.w_chg]
theorem U.w_itS : U.wp (itS a S) QL E = U.wp (a S) (fun d S => U.wpo (itemsD d) S QL) E := by
  unfold itS
  simp only [U.w_bind, U.w_opt]
theorem U.w_itR1 {x : M (List D)} : U.wp (itR1 x S) QL E = U.wp (x S) (fun l S => U.wpo (range1 l) S QL) E := by
  unfold itR1
  simp only [U.w_bind, U.w_opt]
theorem U.w_itR2 {x : M (List D)} : U.wp (itR2 x S) QL E = U.wp (x S) (fun l S => U.wpo (range2 l) S QL) E := by
  unfold itR2
  simp only [U.w_bind, U.w_opt]
theorem U.w_itR3 {x : M (List D)} : U.wp (itR3 x S) QL E = U.wp (x S) (fun l S => U.wpo (range3 l) S QL) E := by
  unfold itR3
  simp only [U.w_bind, U.w_opt]
theorem U.w_itZ {x : M (List D)} : U.wp (itZ x S) QL E = U.wp (x S) (fun l S => U.wpo (zipA l) S QL) E := by
  unfold itZ
  simp only [U.w_bind, U.w_opt]
theorem U.w_itN {x : M (List D)} : U.wp (itN x S) QL E = U.wp (x S) (fun l S => U.wpo (enumA l) S QL) E := by
  unfold itN
  simp only [U.w_bind, U.w_opt]
theorem U.w_lc {i : M (List D)} {p : Pat} {t : En → M Bool} {e : En → M D} {vs : List Nat} : U.wp (lcL i p t e ρ vs S) QL E = U.wp (i S) (fun items S => U.wp (compD p t e (wipeD ρ vs) items S) QL E) E := by
  unfold lcL
  simp only [U.w_bind]
theorem U.w_fz : U.wp (M.bind a fzM S) Q E = U.wp (a S) (fun d S => U.wp (fzM d S) Q E) E := U.w_bind
end
section
variable {S : Cells} {ρ : En} {N : En → Cells → Prop} {Rt : D → Cells → Prop} {E : Xc → En → Cells → Prop} {F G : SM} {f fo fi : En → M D}
theorem U.w_nx : U.wo (.nx ρ S) N Rt E = N ρ S := nrfl rfl
theorem U.w_rt {d : D} : U.wo (.rt d S) N Rt E = Rt d S := nrfl rfl
theorem U.w_seq : U.wo (seqS F G ρ S) N Rt E = U.wo (F ρ S) (fun ρ S => U.wo (G ρ S) N Rt E) Rt E := by
  unfold seqS
  cases F ρ S <;> rfl
theorem U.w_bS {f : En → M α} {g : α → SM} : U.wo (bindS f g ρ S) N Rt E = U.wp (f ρ S) (fun a S => U.wo (g a ρ S) N Rt E) (fun x S => E x ρ S) := by
  unfold bindS
  cases f ρ S <;> rfl
theorem U.w_set {i : Nat} : U.wo (setS i f ρ S) N Rt E = U.wp (f ρ S) (fun d S => N (ρ.set i (some d)) S) (fun x S => E x ρ S) := U.w_bS
def wPar (i j : Nat) (ρ : En) (N : En → Cells → Prop) (l : List D) (S : Cells) : Prop := match l with
  | [d, e] => N ((ρ.set i (some d)).set j (some e)) S
  | _ => False
theorem wPar_2 {i j : Nat} {d e : D} : wPar i j ρ N [d, e] S = N ((ρ.set i (some d)).set j (some e)) S := nrfl rfl
theorem U.w_par {i j : Nat} {x : En → M (List D)} : U.wo (parS i j x ρ S) N Rt E = U.wp (x ρ S) (wPar i j ρ N) (fun x S => E x ρ S) := by
  unfold parS
  rw [U.w_bS]
  congr 1
  funext l S
  unfold wPar
  match l with
  | [] => rfl
  | [_] => rfl
  | [_, _] => rfl
  | _ :: _ :: _ :: _ => rfl
theorem U.w_aug {i : Nat} {op : D → D → Cells → Option D} : U.wo (augS i op f ρ S) N Rt E = U.wp (rd ρ i S) (fun x S => U.wp (f ρ S) (fun y S => U.wpo (op x y S) S fun d S => N (ρ.set i (some d)) S) (fun x S => E x ρ S)) (fun x S => E x ρ S) := by
  unfold augS
  rw [U.w_bS]
  simp only [U.w_bind, U.w_opt]
  rfl
def wSto (o : Option Cells) (ρ : En) (N : En → Cells → Prop) : Prop := match o with
  | some S => N ρ S
  | none => False
theorem U.w_sto : U.wo (stoS f fo fi ρ S) N Rt E = U.wp (f ρ S) (fun y S => U.wp (fo ρ S) (fun d S => U.wp (fi ρ S) (fun k S => wSto (setAtD d k y S) ρ N) (fun x S => E x ρ S)) (fun x S => E x ρ S)) (fun x S => E x ρ S) := by
  unfold stoS
  simp only [U.w_bS]
  congr 1
  funext y S
  congr 1
  funext d S
  congr 1
  funext k S
  cases setAtD d k y S <;> rfl
theorem U.w_exp : U.wo (expS f ρ S) N Rt E = U.wp (f ρ S) (fun _ S => N ρ S) (fun x S => E x ρ S) := U.w_bS
theorem U.w_ret : U.wo (retS f ρ S) N Rt E = U.wp (f ρ S) Rt (fun x S => E x ρ S) := U.w_bS
theorem U.w_retN : U.wo (retNS ρ S) N Rt E = Rt .non S := nrfl rfl
theorem U.w_nxS : U.wo (nxS ρ S) N Rt E = N ρ S := nrfl rfl
theorem U.w_ifS {c : En → M Bool} : U.wo (ifS c F G ρ S) N Rt E = U.wp (c ρ S) (fun k S => U.wif k (U.wo (F ρ S) N Rt E) (U.wo (G ρ S) N Rt E)) (fun x S => E x ρ S) := by
  unfold ifS
  rw [U.w_bS]
  congr 1
  funext k S
  cases k <;> simp [U.wif]
theorem U.w_for {x : En → M (List D)} {p : Pat} : U.wo (forS x p F ρ S) N Rt E = U.wp (x ρ S) (fun items S => U.wo (forD p F items ρ S) N Rt E) (fun x S => E x ρ S) := U.w_bS
def wAsg (p : Pat) (ρ : En) (N : En → Cells → Prop) (d : D) (S : Cells) : Prop := match p.put d ρ with
  | some ρ' => N ρ' S
  | none => False
theorem U.w_asg {p : Pat} : U.wo (asgD f p ρ S) N Rt E = U.wp (f ρ S) (wAsg p ρ N) (fun x S => E x ρ S) := by
  unfold asgD
  rw [U.w_bS]
  congr 1
  funext d S
  unfold wAsg
  cases p.put d ρ <;> rfl
theorem U.w_stk : U.wo (stkS ρ S) N Rt E = False := nrfl rfl
/-! a def's end -/
def wret (n : Nat) (S : Cells) (d : D) (Q : D → Cells → Prop) : Prop := match resv n S d with
  | some d' => Q d' (S.take n)
  | none => False
def wretL (n : Nat) (S : Cells) (d : D) (Q : List D → Cells → Prop) : Prop := match d with
  | .ref m => n ≤ m ∧ ∃ l, S[m]? = some ⟨true, .lst l⟩ ∧ Q l (S.take n)
  | _ => False
theorem U.w_body {Nn : Nat} {B : SM} {ds : List D} {Q : D → Cells → Prop} {E : Xc → Cells → Prop} : U.wp (bodyD Nn B ds S) Q E = U.wo (B (startD Nn ds) S) (fun _ S1 => Q .non (S1.take S.length)) (fun d S1 => wret S.length S1 d Q) (fun x _ S1 => E x (S1.take S.length)) := by
  unfold bodyD
  cases B (startD Nn ds) S with
  | rt d S1 =>
    show U.wp (retD S.length S1 (resv S.length S1 d)) Q E = wret S.length S1 d Q
    unfold wret
    cases resv S.length S1 d <;> rfl
  | _ => rfl
theorem U.w_bodyL {Nn : Nat} {B : SM} {ds : List D} {Q : List D → Cells → Prop} {E : Xc → Cells → Prop} : U.wp (bodyL Nn B ds S) Q E = U.wo (B (startD Nn ds) S) (fun _ _ => False) (fun d S1 => wretL S.length S1 d Q) (fun x _ S1 => E x (S1.take S.length)) := by
  unfold bodyL
  cases B (startD Nn ds) S with
  | rt d S1 =>
    cases d with
    | ref m =>
      show U.wp (if S.length ≤ m then (match S1[m]? with
        | some ⟨true, .lst l⟩ => .ok l (S1.take S.length)
        | _ => .stuck : DL.R (List D)) else .stuck) Q E = (S.length ≤ m ∧ ∃ l, S1[m]? = some ⟨true, .lst l⟩ ∧ Q l (S1.take S.length))
      by_cases h : S.length ≤ m
      · rw [if_pos h]
        refine propext ⟨fun q => ⟨h, ?_⟩, fun ⟨_, l, e, q⟩ => by rw [e]; exact q⟩
        split at q
        · rename_i l e
          exact ⟨l, e, q⟩
        · exact q.elim
      · rw [if_neg h]
        exact propext ⟨fun q => q.elim, fun q => absurd q.1 h⟩
    | _ => rfl
  | _ => rfl
variable {n : Nat} {Q : D → Cells → Prop}
theorem wret_non : wret n S .non Q = Q .non (S.take n) := nrfl rfl
theorem wret_bl {b : Bool} : wret n S (.bl b) Q = Q (.bl b) (S.take n) := nrfl rfl
theorem wret_int {b : Int} : wret n S (.int b) Q = Q (.int b) (S.take n) := nrfl rfl
theorem wret_str {b : Str} : wret n S (.str b) Q = Q (.str b) (S.take n) := nrfl rfl
theorem wret_flat {d : D} (h : d.flat = true) : wret n S d Q = Q d (S.take n) := by
  unfold wret
  rw [resv_flat _ _ _ h]
/-- a changed list is handed back as a new one -/
theorem wret_ref {m : Nat} {b : Bool} {l : List D} (hn : n ≤ m) (h : S[m]? = some ⟨b, .lst l⟩) : wret n S (.ref m) Q = Q (.lst l) (S.take n) := by
  unfold wret resv
  rw [if_neg (by omega), h]
theorem wretL_ref {m : Nat} {l : List D} {Q : List D → Cells → Prop} (hn : n ≤ m) (h : S[m]? = some ⟨true, .lst l⟩) (q : Q l (S.take n)) : wretL n S (.ref m) Q := ⟨hn, l, h, q⟩
end
/-! tests -/
section
variable {A B : Prop}
theorem U.wif_t : U.wif true A B = A := by simp [U.wif]
theorem U.wif_f : U.wif false A B = B := by simp [U.wif]
theorem U.wif_d {p : Prop} [Decidable p] : U.wif (decide p) A B = ((p → A) ∧ (¬ p → B)) := by simp [U.wif]
theorem U.wif_n {b : Bool} : U.wif (!b) A B = U.wif b B A := by cases b <;> simp [U.wif]
theorem U.wif_a {a b : Bool} : U.wif (a && b) A B = U.wif a (U.wif b A B) B := by cases a <;> cases b <;> simp [U.wif]
theorem U.wif_o {a b : Bool} : U.wif (a || b) A B = U.wif a A (U.wif b A B) := by cases a <;> cases b <;> simp [U.wif]
end
end
/-! the same with a tag: what follows is not looked into when one rewrites -/
section
variable {α β γ : Type}
inductive Tg {α : Sort u} (a : α) : Type
  | mk
def wp (r : DL.R α) (Q : α → Cells → Prop) (E : Xc → Cells → Prop) (t : Tg (PProd.mk Q E) := .mk) : Prop := U.wp r Q E
def wpo (o : Option α) (S : Cells) (Q : α → Cells → Prop) (t : Tg Q := .mk) : Prop := U.wpo o S Q
def wpc (o : Option (α × Cells)) (Q : α → Cells → Prop) (t : Tg Q := .mk) : Prop := U.wpc o Q
def wif (b : Bool) (A B : Prop) (t : Tg (A ∧ B) := .mk) : Prop := U.wif b A B
def wo (o : Out) (N : En → Cells → Prop) (Rt : D → Cells → Prop) (E : Xc → En → Cells → Prop) (t : Tg (PProd.mk N (PProd.mk Rt E)) := .mk) : Prop := U.wo o N Rt E
end
section
variable {α β γ : Type}
theorem wp_ok {r : DL.R α} {a : α} {S : Cells} (h : wp r (fun b T => b = a ∧ T = S) noE) : r = .ok a S := U.wp_ok h
theorem wp_of {r : DL.R α} {a : α} {S : Cells} {Q : α → Cells → Prop} {E : Xc → Cells → Prop} (e : r = .ok a S) (h : Q a S) : wp r Q E := U.wp_of e h
theorem wp_mono {r : DL.R α} {Q Q' : α → Cells → Prop} {E E' : Xc → Cells → Prop} (h : wp r Q E) (hq : ∀ a S, Q a S → Q' a S) (he : ∀ x S, E x S → E' x S) : wp r Q' E' := U.wp_mono h hq he
theorem wp_ex {r : DL.R α} {Q : α → Cells → Prop} (h : wp r Q noE) : ∃ a S, r = .ok a S ∧ Q a S := U.wp_ex h
theorem wo_mono {o : Out} {N N' : En → Cells → Prop} {R R' : D → Cells → Prop} {E E' : Xc → En → Cells → Prop} (h : wo o N R E) (hn : ∀ ρ S, N ρ S → N' ρ S) (hr : ∀ d S, R d S → R' d S) (he : ∀ x ρ S, E x ρ S → E' x ρ S) : wo o N' R' E' := U.wo_mono h hn hr he
section
variable {a b c : M D} {S : Cells} {ρ : En} {Q : D → Cells → Prop} {QL : List D → Cells → Prop} {QB : Bool → Cells → Prop} {E : Xc → Cells → Prop}
theorem w_ok {a : α} {Q : α → Cells → Prop} : wp (.ok a S) Q E = Q a S := U.w_ok
theorem w_some {a : α} {Q : α → Cells → Prop} : wpo (some a) S Q = Q a S := U.w_some
theorem w_somec {a : α} {Q : α → Cells → Prop} : wpc (some (a, S)) Q = Q a S := U.w_somec
theorem w_bind {f : M α} {g : α → M β} {Q : β → Cells → Prop} : wp (M.bind f g S) Q E = wp (f S) (fun a S => wp (g a S) Q E) E := U.w_bind
theorem w_opt {f : Cells → Option α} {Q : α → Cells → Prop} : wp (M.opt f S) Q E = wpo (f S) S Q := U.w_opt
theorem w_chg {f : Cells → Option (α × Cells)} {Q : α → Cells → Prop} : wp (M.chg f S) Q E = wpc (f S) Q := U.w_chg
theorem w_kon {d : D} : wp (kon d S) Q E = Q d S := U.w_kon
theorem w_calm {f : M α} {Q : α → Cells → Prop} : wp (calmM f S) Q E = wp (f S) Q noE := U.w_calm
theorem w_b2 {op : D → D → Cells → Option D} : wp (b2 op a b S) Q E = wp (a S) (fun x S => wp (b S) (fun y S => wpo (op x y S) S Q) E) E := U.w_b2
theorem w_b2L {op : D → D → Cells → Option (List D)} : wp (b2L op a b S) QL E = wp (a S) (fun x S => wp (b S) (fun y S => wpo (op x y S) S QL) E) E := U.w_b2L
theorem w_b1 {op : D → Cells → Option D} : wp (b1 op a S) Q E = wp (a S) (fun x S => wpo (op x S) S Q) E := U.w_b1
theorem w_asB {d : D} : wpo (asB d) S QB = wB QB d S := U.w_asB
theorem w_b2T {op : D → D → Cells → Option D} : wp (b2T op a b S) QB E = wp (a S) (fun x S => wp (b S) (fun y S => wpo (op x y S) S (wB QB)) E) E := U.w_b2T
theorem w_if {k : Bool} {x y : M α} {Q : α → Cells → Prop} : wp ((if k = true then x else y) S) Q E = wif k (wp (x S) Q E) (wp (y S) Q E) := U.w_if
theorem w_chE {op op' : D → D → Cells → Option D} : wp (chE op op' a b c S) Q E = wp (a S) (fun x S => wp (b S) (fun y S => wpo (op x y S) S (wB fun k S => wif k (wp (c S) (fun z S => wpo (op' y z S) S Q) E) (Q (.bl false) S))) E) E := U.w_chE
theorem w_chT {op op' : D → D → Cells → Option D} : wp (chT op op' a b c S) QB E = wp (chE op op' a b c S) (wB QB) E := U.w_chT
theorem w_not {x : M Bool} : wp (notT x S) QB E = wp (x S) (fun c S => QB (!c) S) E := U.w_not
theorem w_val : wp (valT a S) QB E = wp (a S) (fun d S => wpo (truD d S) S QB) E := U.w_val
theorem w_notE : wp (notE a S) Q E = wp (a S) (wB fun c S => Q (.bl (!c)) S) E := U.w_notE
theorem w_ifE {k : M Bool} : wp (ifE k a b S) Q E = wp (k S) (fun k S => wif k (wp (a S) Q E) (wp (b S) Q E)) E := U.w_ifE
theorem w_ifL {k : M Bool} {x y : M (List D)} : wp (ifL k x y S) QL E = wp (k S) (fun k S => wif k (wp (x S) QL E) (wp (y S) QL E)) E := U.w_ifL
theorem w_andM {x y : M Bool} : wp (andM x y S) QB E = wp (x S) (fun k S => wif k (wp (y S) QB E) (QB false S)) E := U.w_andM
theorem w_orM {x y : M Bool} : wp (orM x y S) QB E = wp (x S) (fun k S => wif k (QB true S) (wp (y S) QB E)) E := U.w_orM
theorem w_andE : wp (andE a b S) Q E = wp (a S) (wB fun k S => wif k (wp (b S) Q E) (Q (.bl false) S)) E := U.w_andE
theorem w_orE : wp (orE a b S) Q E = wp (a S) (wB fun k S => wif k (Q (.bl true) S) (wp (b S) Q E)) E := U.w_orE
theorem w_nil : wp (nilA S) QL E = QL [] S := U.w_nil
theorem w_cons {x : M D} {y : M (List D)} : wp (consM x y S) QL E = wp (x S) (fun d S => wp (y S) (fun l S => QL (d :: l) S) E) E := U.w_cons
theorem w_tup {x : M (List D)} : wp (tupE x S) Q E = wp (x S) (fun l S => few l ∧ Q (.tup l) S) E := U.w_tup
theorem w_lst {x : M (List D)} : wp (lstE x S) QL E = wp (x S) (fun l S => few l ∧ QL l S) E := U.w_lst
theorem w_frz {x : M (List D)} : wp (frzE x S) Q E = wp (x S) (fun l S => Q (.lst l) S) E := U.w_frz
theorem w_new {l : List D} : wp (newC l S) Q E = (flatL l = true ∧ Q (.ref S.length) (S ++ [⟨true, .lst l⟩])) := U.w_new
theorem w_cel {x : M (List D)} : wp (celE x S) Q E = wp (x S) (fun l S => flatL l = true ∧ Q (.ref S.length) (S ++ [⟨true, .lst l⟩])) E := U.w_cel
theorem w_cb {op : List D → Cells → Option D} {x : M (List D)} : wp (cbE op x S) Q E = wp (x S) (fun l S => wpo (op l S) S Q) E := U.w_cb
theorem w_cbL {op : List D → Cells → Option (List D)} {x : M (List D)} : wp (cbL op x S) QL E = wp (x S) (fun l S => wpo (op l S) S QL) E := U.w_cbL
theorem w_ar {n : Nat} {g : List D → M α} {l : List D} {Q : α → Cells → Prop} (h : l.length = n) : wp (arity n g l S) Q E = wp (g l S) Q E := U.w_ar h
theorem w_call {n : Nat} {g : List D → M D} {x : M (List D)} : wp (callE n g x S) Q E = wp (x S) (fun l S => wp (arity n g l S) Q noE) E := U.w_call
theorem w_callL {n : Nat} {g : List D → M (List D)} {x : M (List D)} : wp (callL n g x S) QL E = wp (x S) (fun l S => wp (arity n g l S) QL noE) E := U.w_callL
theorem w_ar0 {g : List D → M α} {Q : α → Cells → Prop} : wp (arity 0 g [] S) Q E = wp (g [] S) Q E := U.w_ar0
theorem w_ar1 {g : List D → M α} {Q : α → Cells → Prop} {x1 : D} : wp (arity 1 g [x1] S) Q E = wp (g [x1] S) Q E := U.w_ar1
theorem w_ar2 {g : List D → M α} {Q : α → Cells → Prop} {x1 x2 : D} : wp (arity 2 g [x1, x2] S) Q E = wp (g [x1, x2] S) Q E := U.w_ar2
theorem w_ar3 {g : List D → M α} {Q : α → Cells → Prop} {x1 x2 x3 : D} : wp (arity 3 g [x1, x2, x3] S) Q E = wp (g [x1, x2, x3] S) Q E := U.w_ar3
theorem w_ar4 {g : List D → M α} {Q : α → Cells → Prop} {x1 x2 x3 x4 : D} : wp (arity 4 g [x1, x2, x3, x4] S) Q E = wp (g [x1, x2, x3, x4] S) Q E := U.w_ar4
theorem w_ar5 {g : List D → M α} {Q : α → Cells → Prop} {x1 x2 x3 x4 x5 : D} : wp (arity 5 g [x1, x2, x3, x4, x5] S) Q E = wp (g [x1, x2, x3, x4, x5] S) Q E := U.w_ar5
theorem w_ar6 {g : List D → M α} {Q : α → Cells → Prop} {x1 x2 x3 x4 x5 x6 : D} : wp (arity 6 g [x1, x2, x3, x4, x5, x6] S) Q E = wp (g [x1, x2, x3, x4, x5, x6] S) Q E := U.w_ar6
variable {QO : Option Int → Cells → Prop}
theorem w_noO : wp (noO S) QO E = QO none S := U.w_noO
theorem w_smO : wp (smO a S) QO E = wp (a S) (fun d S => wpo (partD d) S QO) E := U.w_smO
theorem w_sl {i j : M (Option Int)} : wp (slE a i j S) Q E = wp (a S) (fun d S => wp (i S) (fun i S => wp (j S) (fun j S => wpo (slD d i j S) S Q) E) E) E := U.w_sl
theorem w_slL {i j : M (Option Int)} : wp (slLL a i j S) QL E = wp (a S) (fun d S => wp (i S) (fun i S => wp (j S) (fun j S => wpo (slL d i j S) S QL) E) E) E := U.w_slL
theorem w_rev : wp (revL a S) QL E = wp (a S) (fun d S => wpo ((seqL S d).map List.reverse) S QL) E := U.w_rev
theorem w_step : wp (stepL a b S) QL E = wp (a S) (fun d S => wp (b S) (fun y S => wpo (sliceStepD d y S) S QL) E) E := U.w_step
theorem w_isi {tab : String → Bool} : wp (isiE tab a S) Q E = wp (a S) (fun d S => wpo (isiD tab d S) S Q) E := U.w_isi
theorem w_sets : wp (setsL a S) QL E = wp (a S) (fun d S => wpo (setSortD d S) S QL) E := U.w_sets
theorem w_lrg {x : M (List D)} : wp (lrgL x S) QL E = wp (x S) (fun l S => wpo (rangeA l) S QL) E := U.w_lrg
theorem w_mth {tn : String} {op : D → List D → Cells → Option (D × Cells)} {x : M (List D)} : wp (mthE tn op a x S) Q E = wp (a S) (fun d S => wpo (isTy tn d S) S fun _ S => wp (x S) (fun l S => wpc (op d l S) Q) E) E := U.w_mth
theorem w_mth0 {tn : String} {op : D → List D → Cells → Option (D × Cells)} : wp (mth0 tn op a S) Q E = wp (a S) (fun d S => wpo (isTy tn d S) S fun _ S => wpc (op d [] S) Q) E := U.w_mth0
theorem w_itS : wp (itS a S) QL E = wp (a S) (fun d S => wpo (itemsD d) S QL) E := U.w_itS
theorem w_itR1 {x : M (List D)} : wp (itR1 x S) QL E = wp (x S) (fun l S => wpo (range1 l) S QL) E := U.w_itR1
theorem w_itR2 {x : M (List D)} : wp (itR2 x S) QL E = wp (x S) (fun l S => wpo (range2 l) S QL) E := U.w_itR2
theorem w_itR3 {x : M (List D)} : wp (itR3 x S) QL E = wp (x S) (fun l S => wpo (range3 l) S QL) E := U.w_itR3
theorem w_itZ {x : M (List D)} : wp (itZ x S) QL E = wp (x S) (fun l S => wpo (zipA l) S QL) E := U.w_itZ
theorem w_itN {x : M (List D)} : wp (itN x S) QL E = wp (x S) (fun l S => wpo (enumA l) S QL) E := U.w_itN
theorem w_lc {i : M (List D)} {p : Pat} {t : En → M Bool} {e : En → M D} {vs : List Nat} : wp (lcL i p t e ρ vs S) QL E = wp (i S) (fun items S => wp (compD p t e (wipeD ρ vs) items S) QL E) E := U.w_lc
theorem w_fz : wp (M.bind a fzM S) Q E = wp (a S) (fun d S => wp (fzM d S) Q E) E := U.w_fz
end
section
variable {S : Cells} {ρ : En} {N : En → Cells → Prop} {Rt : D → Cells → Prop} {E : Xc → En → Cells → Prop} {F G : SM} {f fo fi : En → M D}
theorem w_nx : wo (.nx ρ S) N Rt E = N ρ S := U.w_nx
theorem w_rt {d : D} : wo (.rt d S) N Rt E = Rt d S := U.w_rt
theorem w_seq : wo (seqS F G ρ S) N Rt E = wo (F ρ S) (fun ρ S => wo (G ρ S) N Rt E) Rt E := U.w_seq
theorem w_bS {f : En → M α} {g : α → SM} : wo (bindS f g ρ S) N Rt E = wp (f ρ S) (fun a S => wo (g a ρ S) N Rt E) (fun x S => E x ρ S) := U.w_bS
theorem w_set {i : Nat} : wo (setS i f ρ S) N Rt E = wp (f ρ S) (fun d S => N (ρ.set i (some d)) S) (fun x S => E x ρ S) := U.w_set
theorem w_par {i j : Nat} {x : En → M (List D)} : wo (parS i j x ρ S) N Rt E = wp (x ρ S) (wPar i j ρ N) (fun x S => E x ρ S) := U.w_par
theorem w_aug {i : Nat} {op : D → D → Cells → Option D} : wo (augS i op f ρ S) N Rt E = wp (rd ρ i S) (fun x S => wp (f ρ S) (fun y S => wpo (op x y S) S fun d S => N (ρ.set i (some d)) S) (fun x S => E x ρ S)) (fun x S => E x ρ S) := U.w_aug
theorem w_sto : wo (stoS f fo fi ρ S) N Rt E = wp (f ρ S) (fun y S => wp (fo ρ S) (fun d S => wp (fi ρ S) (fun k S => wSto (setAtD d k y S) ρ N) (fun x S => E x ρ S)) (fun x S => E x ρ S)) (fun x S => E x ρ S) := U.w_sto
theorem w_exp : wo (expS f ρ S) N Rt E = wp (f ρ S) (fun _ S => N ρ S) (fun x S => E x ρ S) := U.w_exp
theorem w_ret : wo (retS f ρ S) N Rt E = wp (f ρ S) Rt (fun x S => E x ρ S) := U.w_ret
theorem w_retN : wo (retNS ρ S) N Rt E = Rt .non S := U.w_retN
theorem w_nxS : wo (nxS ρ S) N Rt E = N ρ S := U.w_nxS
theorem w_ifS {c : En → M Bool} : wo (ifS c F G ρ S) N Rt E = wp (c ρ S) (fun k S => wif k (wo (F ρ S) N Rt E) (wo (G ρ S) N Rt E)) (fun x S => E x ρ S) := U.w_ifS
theorem w_for {x : En → M (List D)} {p : Pat} : wo (forS x p F ρ S) N Rt E = wp (x ρ S) (fun items S => wo (forD p F items ρ S) N Rt E) (fun x S => E x ρ S) := U.w_for
theorem w_asg {p : Pat} : wo (asgD f p ρ S) N Rt E = wp (f ρ S) (wAsg p ρ N) (fun x S => E x ρ S) := U.w_asg
theorem w_stk : wo (stkS ρ S) N Rt E = False := U.w_stk
theorem w_body {Nn : Nat} {B : SM} {ds : List D} {Q : D → Cells → Prop} {E : Xc → Cells → Prop} : wp (bodyD Nn B ds S) Q E = wo (B (startD Nn ds) S) (fun _ S1 => Q .non (S1.take S.length)) (fun d S1 => wret S.length S1 d Q) (fun x _ S1 => E x (S1.take S.length)) := U.w_body
theorem w_bodyL {Nn : Nat} {B : SM} {ds : List D} {Q : List D → Cells → Prop} {E : Xc → Cells → Prop} : wp (bodyL Nn B ds S) Q E = wo (B (startD Nn ds) S) (fun _ _ => False) (fun d S1 => wretL S.length S1 d Q) (fun x _ S1 => E x (S1.take S.length)) := U.w_bodyL
variable {n : Nat} {Q : D → Cells → Prop}
end
section
variable {A B : Prop}
theorem wif_t : wif true A B = A := U.wif_t
theorem wif_f : wif false A B = B := U.wif_f
theorem wif_d {p : Prop} [Decidable p] : wif (decide p) A B = ((p → A) ∧ (¬ p → B)) := U.wif_d
theorem wif_n {b : Bool} : wif (!b) A B = wif b B A := U.wif_n
theorem wif_a {a b : Bool} : wif (a && b) A B = wif a (wif b A B) B := U.wif_a
theorem wif_o {a b : Bool} : wif (a || b) A B = wif a A (wif b A B) := U.wif_o
end
end
end DL
end
section
set_option maxHeartbeats 4000000
/-! DX: rules by forms. -/
namespace DL
open PySem PySem.Spec L2
open PyProof.Rows hiding St
section
variable {α : Type} {S S' : Cells} {ρ : En} {Q : D → Cells → Prop} {QL : List D → Cells → Prop} {E : Xc → Cells → Prop} {N : En → Cells → Prop} {d e : D} {i j k : Int} {x y : Str} {l m : List D}
theorem r0 : wp (rd (some d :: ρ) 0 S) Q E = Q d S := nrfl rfl
theorem r1 {x0 : Option D} : wp (rd (x0 :: some d :: ρ) 1 S) Q E = Q d S := nrfl rfl
theorem r2 {x0 x1 : Option D} : wp (rd (x0 :: x1 :: some d :: ρ) 2 S) Q E = Q d S := nrfl rfl
theorem r3 {x0 x1 x2 : Option D} : wp (rd (x0 :: x1 :: x2 :: some d :: ρ) 3 S) Q E = Q d S := nrfl rfl
theorem r4 {x0 x1 x2 x3 : Option D} : wp (rd (x0 :: x1 :: x2 :: x3 :: some d :: ρ) 4 S) Q E = Q d S := nrfl rfl
theorem r5 {x0 x1 x2 x3 x4 : Option D} : wp (rd (x0 :: x1 :: x2 :: x3 :: x4 :: some d :: ρ) 5 S) Q E = Q d S := nrfl rfl
theorem r6 {x0 x1 x2 x3 x4 x5 : Option D} : wp (rd (x0 :: x1 :: x2 :: x3 :: x4 :: x5 :: some d :: ρ) 6 S) Q E = Q d S := nrfl rfl
theorem r7 {x0 x1 x2 x3 x4 x5 x6 : Option D} : wp (rd (x0 :: x1 :: x2 :: x3 :: x4 :: x5 :: x6 :: some d :: ρ) 7 S) Q E = Q d S := nrfl rfl
theorem r8 {x0 x1 x2 x3 x4 x5 x6 x7 : Option D} : wp (rd (x0 :: x1 :: x2 :: x3 :: x4 :: x5 :: x6 :: x7 :: some d :: ρ) 8 S) Q E = Q d S := nrfl rfl
theorem r9 {x0 x1 x2 x3 x4 x5 x6 x7 x8 : Option D} : wp (rd (x0 :: x1 :: x2 :: x3 :: x4 :: x5 :: x6 :: x7 :: x8 :: some d :: ρ) 9 S) Q E = Q d S := nrfl rfl
theorem r10 {x0 x1 x2 x3 x4 x5 x6 x7 x8 x9 : Option D} : wp (rd (x0 :: x1 :: x2 :: x3 :: x4 :: x5 :: x6 :: x7 :: x8 :: x9 :: some d :: ρ) 10 S) Q E = Q d S := nrfl rfl
theorem r11 {x0 x1 x2 x3 x4 x5 x6 x7 x8 x9 x10 : Option D} : wp (rd (x0 :: x1 :: x2 :: x3 :: x4 :: x5 :: x6 :: x7 :: x8 :: x9 :: x10 :: some d :: ρ) 11 S) Q E = Q d S := nrfl rfl
theorem r12 {x0 x1 x2 x3 x4 x5 x6 x7 x8 x9 x10 x11 : Option D} : wp (rd (x0 :: x1 :: x2 :: x3 :: x4 :: x5 :: x6 :: x7 :: x8 :: x9 :: x10 :: x11 :: some d :: ρ) 12 S) Q E = Q d S := nrfl rfl
theorem r13 {x0 x1 x2 x3 x4 x5 x6 x7 x8 x9 x10 x11 x12 : Option D} : wp (rd (x0 :: x1 :: x2 :: x3 :: x4 :: x5 :: x6 :: x7 :: x8 :: x9 :: x10 :: x11 :: x12 :: some d :: ρ) 13 S) Q E = Q d S := nrfl rfl
theorem r14 {x0 x1 x2 x3 x4 x5 x6 x7 x8 x9 x10 x11 x12 x13 : Option D} : wp (rd (x0 :: x1 :: x2 :: x3 :: x4 :: x5 :: x6 :: x7 :: x8 :: x9 :: x10 :: x11 :: x12 :: x13 :: some d :: ρ) 14 S) Q E = Q d S := nrfl rfl
theorem r15 {x0 x1 x2 x3 x4 x5 x6 x7 x8 x9 x10 x11 x12 x13 x14 : Option D} : wp (rd (x0 :: x1 :: x2 :: x3 :: x4 :: x5 :: x6 :: x7 :: x8 :: x9 :: x10 :: x11 :: x12 :: x13 :: x14 :: some d :: ρ) 15 S) Q E = Q d S := nrfl rfl
theorem r16 {x0 x1 x2 x3 x4 x5 x6 x7 x8 x9 x10 x11 x12 x13 x14 x15 : Option D} : wp (rd (x0 :: x1 :: x2 :: x3 :: x4 :: x5 :: x6 :: x7 :: x8 :: x9 :: x10 :: x11 :: x12 :: x13 :: x14 :: x15 :: some d :: ρ) 16 S) Q E = Q d S := nrfl rfl
theorem r17 {x0 x1 x2 x3 x4 x5 x6 x7 x8 x9 x10 x11 x12 x13 x14 x15 x16 : Option D} : wp (rd (x0 :: x1 :: x2 :: x3 :: x4 :: x5 :: x6 :: x7 :: x8 :: x9 :: x10 :: x11 :: x12 :: x13 :: x14 :: x15 :: x16 :: some d :: ρ) 17 S) Q E = Q d S := nrfl rfl
theorem r18 {x0 x1 x2 x3 x4 x5 x6 x7 x8 x9 x10 x11 x12 x13 x14 x15 x16 x17 : Option D} : wp (rd (x0 :: x1 :: x2 :: x3 :: x4 :: x5 :: x6 :: x7 :: x8 :: x9 :: x10 :: x11 :: x12 :: x13 :: x14 :: x15 :: x16 :: x17 :: some d :: ρ) 18 S) Q E = Q d S := nrfl rfl
theorem r19 {x0 x1 x2 x3 x4 x5 x6 x7 x8 x9 x10 x11 x12 x13 x14 x15 x16 x17 x18 : Option D} : wp (rd (x0 :: x1 :: x2 :: x3 :: x4 :: x5 :: x6 :: x7 :: x8 :: x9 :: x10 :: x11 :: x12 :: x13 :: x14 :: x15 :: x16 :: x17 :: x18 :: some d :: ρ) 19 S) Q E = Q d S := nrfl rfl
theorem r20 {x0 x1 x2 x3 x4 x5 x6 x7 x8 x9 x10 x11 x12 x13 x14 x15 x16 x17 x18 x19 : Option D} : wp (rd (x0 :: x1 :: x2 :: x3 :: x4 :: x5 :: x6 :: x7 :: x8 :: x9 :: x10 :: x11 :: x12 :: x13 :: x14 :: x15 :: x16 :: x17 :: x18 :: x19 :: some d :: ρ) 20 S) Q E = Q d S := nrfl rfl
theorem r21 {x0 x1 x2 x3 x4 x5 x6 x7 x8 x9 x10 x11 x12 x13 x14 x15 x16 x17 x18 x19 x20 : Option D} : wp (rd (x0 :: x1 :: x2 :: x3 :: x4 :: x5 :: x6 :: x7 :: x8 :: x9 :: x10 :: x11 :: x12 :: x13 :: x14 :: x15 :: x16 :: x17 :: x18 :: x19 :: x20 :: some d :: ρ) 21 S) Q E = Q d S := nrfl rfl
theorem r22 {x0 x1 x2 x3 x4 x5 x6 x7 x8 x9 x10 x11 x12 x13 x14 x15 x16 x17 x18 x19 x20 x21 : Option D} : wp (rd (x0 :: x1 :: x2 :: x3 :: x4 :: x5 :: x6 :: x7 :: x8 :: x9 :: x10 :: x11 :: x12 :: x13 :: x14 :: x15 :: x16 :: x17 :: x18 :: x19 :: x20 :: x21 :: some d :: ρ) 22 S) Q E = Q d S := nrfl rfl
theorem r23 {x0 x1 x2 x3 x4 x5 x6 x7 x8 x9 x10 x11 x12 x13 x14 x15 x16 x17 x18 x19 x20 x21 x22 : Option D} : wp (rd (x0 :: x1 :: x2 :: x3 :: x4 :: x5 :: x6 :: x7 :: x8 :: x9 :: x10 :: x11 :: x12 :: x13 :: x14 :: x15 :: x16 :: x17 :: x18 :: x19 :: x20 :: x21 :: x22 :: some d :: ρ) 23 S) Q E = Q d S := nrfl rfl
theorem r24 {x0 x1 x2 x3 x4 x5 x6 x7 x8 x9 x10 x11 x12 x13 x14 x15 x16 x17 x18 x19 x20 x21 x22 x23 : Option D} : wp (rd (x0 :: x1 :: x2 :: x3 :: x4 :: x5 :: x6 :: x7 :: x8 :: x9 :: x10 :: x11 :: x12 :: x13 :: x14 :: x15 :: x16 :: x17 :: x18 :: x19 :: x20 :: x21 :: x22 :: x23 :: some d :: ρ) 24 S) Q E = Q d S := nrfl rfl
theorem r25 {x0 x1 x2 x3 x4 x5 x6 x7 x8 x9 x10 x11 x12 x13 x14 x15 x16 x17 x18 x19 x20 x21 x22 x23 x24 : Option D} : wp (rd (x0 :: x1 :: x2 :: x3 :: x4 :: x5 :: x6 :: x7 :: x8 :: x9 :: x10 :: x11 :: x12 :: x13 :: x14 :: x15 :: x16 :: x17 :: x18 :: x19 :: x20 :: x21 :: x22 :: x23 :: x24 :: some d :: ρ) 25 S) Q E = Q d S := nrfl rfl
theorem r26 {x0 x1 x2 x3 x4 x5 x6 x7 x8 x9 x10 x11 x12 x13 x14 x15 x16 x17 x18 x19 x20 x21 x22 x23 x24 x25 : Option D} : wp (rd (x0 :: x1 :: x2 :: x3 :: x4 :: x5 :: x6 :: x7 :: x8 :: x9 :: x10 :: x11 :: x12 :: x13 :: x14 :: x15 :: x16 :: x17 :: x18 :: x19 :: x20 :: x21 :: x22 :: x23 :: x24 :: x25 :: some d :: ρ) 26 S) Q E = Q d S := nrfl rfl
theorem r27 {x0 x1 x2 x3 x4 x5 x6 x7 x8 x9 x10 x11 x12 x13 x14 x15 x16 x17 x18 x19 x20 x21 x22 x23 x24 x25 x26 : Option D} : wp (rd (x0 :: x1 :: x2 :: x3 :: x4 :: x5 :: x6 :: x7 :: x8 :: x9 :: x10 :: x11 :: x12 :: x13 :: x14 :: x15 :: x16 :: x17 :: x18 :: x19 :: x20 :: x21 :: x22 :: x23 :: x24 :: x25 :: x26 :: some d :: ρ) 27 S) Q E = Q d S := nrfl rfl
theorem r28 {x0 x1 x2 x3 x4 x5 x6 x7 x8 x9 x10 x11 x12 x13 x14 x15 x16 x17 x18 x19 x20 x21 x22 x23 x24 x25 x26 x27 : Option D} : wp (rd (x0 :: x1 :: x2 :: x3 :: x4 :: x5 :: x6 :: x7 :: x8 :: x9 :: x10 :: x11 :: x12 :: x13 :: x14 :: x15 :: x16 :: x17 :: x18 :: x19 :: x20 :: x21 :: x22 :: x23 :: x24 :: x25 :: x26 :: x27 :: some d :: ρ) 28 S) Q E = Q d S := nrfl rfl
theorem r29 {x0 x1 x2 x3 x4 x5 x6 x7 x8 x9 x10 x11 x12 x13 x14 x15 x16 x17 x18 x19 x20 x21 x22 x23 x24 x25 x26 x27 x28 : Option D} : wp (rd (x0 :: x1 :: x2 :: x3 :: x4 :: x5 :: x6 :: x7 :: x8 :: x9 :: x10 :: x11 :: x12 :: x13 :: x14 :: x15 :: x16 :: x17 :: x18 :: x19 :: x20 :: x21 :: x22 :: x23 :: x24 :: x25 :: x26 :: x27 :: x28 :: some d :: ρ) 29 S) Q E = Q d S := nrfl rfl
theorem s0 {x0 y : Option D} : List.set (x0 :: ρ) 0 y = y :: ρ := nrfl rfl
theorem s1 {x0 x1 y : Option D} : List.set (x0 :: x1 :: ρ) 1 y = x0 :: y :: ρ := nrfl rfl
theorem s2 {x0 x1 x2 y : Option D} : List.set (x0 :: x1 :: x2 :: ρ) 2 y = x0 :: x1 :: y :: ρ := nrfl rfl
theorem s3 {x0 x1 x2 x3 y : Option D} : List.set (x0 :: x1 :: x2 :: x3 :: ρ) 3 y = x0 :: x1 :: x2 :: y :: ρ := nrfl rfl
theorem s4 {x0 x1 x2 x3 x4 y : Option D} : List.set (x0 :: x1 :: x2 :: x3 :: x4 :: ρ) 4 y = x0 :: x1 :: x2 :: x3 :: y :: ρ := nrfl rfl
theorem s5 {x0 x1 x2 x3 x4 x5 y : Option D} : List.set (x0 :: x1 :: x2 :: x3 :: x4 :: x5 :: ρ) 5 y = x0 :: x1 :: x2 :: x3 :: x4 :: y :: ρ := nrfl rfl
theorem s6 {x0 x1 x2 x3 x4 x5 x6 y : Option D} : List.set (x0 :: x1 :: x2 :: x3 :: x4 :: x5 :: x6 :: ρ) 6 y = x0 :: x1 :: x2 :: x3 :: x4 :: x5 :: y :: ρ := nrfl rfl
theorem s7 {x0 x1 x2 x3 x4 x5 x6 x7 y : Option D} : List.set (x0 :: x1 :: x2 :: x3 :: x4 :: x5 :: x6 :: x7 :: ρ) 7 y = x0 :: x1 :: x2 :: x3 :: x4 :: x5 :: x6 :: y :: ρ := nrfl rfl
theorem s8 {x0 x1 x2 x3 x4 x5 x6 x7 x8 y : Option D} : List.set (x0 :: x1 :: x2 :: x3 :: x4 :: x5 :: x6 :: x7 :: x8 :: ρ) 8 y = x0 :: x1 :: x2 :: x3 :: x4 :: x5 :: x6 :: x7 :: y :: ρ := nrfl rfl
theorem s9 {x0 x1 x2 x3 x4 x5 x6 x7 x8 x9 y : Option D} : List.set (x0 :: x1 :: x2 :: x3 :: x4 :: x5 :: x6 :: x7 :: x8 :: x9 :: ρ) 9 y = x0 :: x1 :: x2 :: x3 :: x4 :: x5 :: x6 :: x7 :: x8 :: y :: ρ := nrfl rfl
theorem s10 {x0 x1 x2 x3 x4 x5 x6 x7 x8 x9 x10 y : Option D} : List.set (x0 :: x1 :: x2 :: x3 :: x4 :: x5 :: x6 :: x7 :: x8 :: x9 :: x10 :: ρ) 10 y = x0 :: x1 :: x2 :: x3 :: x4 :: x5 :: x6 :: x7 :: x8 :: x9 :: y :: ρ := nrfl rfl
theorem s11 {x0 x1 x2 x3 x4 x5 x6 x7 x8 x9 x10 x11 y : Option D} : List.set (x0 :: x1 :: x2 :: x3 :: x4 :: x5 :: x6 :: x7 :: x8 :: x9 :: x10 :: x11 :: ρ) 11 y = x0 :: x1 :: x2 :: x3 :: x4 :: x5 :: x6 :: x7 :: x8 :: x9 :: x10 :: y :: ρ := nrfl rfl
theorem s12 {x0 x1 x2 x3 x4 x5 x6 x7 x8 x9 x10 x11 x12 y : Option D} : List.set (x0 :: x1 :: x2 :: x3 :: x4 :: x5 :: x6 :: x7 :: x8 :: x9 :: x10 :: x11 :: x12 :: ρ) 12 y = x0 :: x1 :: x2 :: x3 :: x4 :: x5 :: x6 :: x7 :: x8 :: x9 :: x10 :: x11 :: y :: ρ := nrfl rfl
theorem s13 {x0 x1 x2 x3 x4 x5 x6 x7 x8 x9 x10 x11 x12 x13 y : Option D} : List.set (x0 :: x1 :: x2 :: x3 :: x4 :: x5 :: x6 :: x7 :: x8 :: x9 :: x10 :: x11 :: x12 :: x13 :: ρ) 13 y = x0 :: x1 :: x2 :: x3 :: x4 :: x5 :: x6 :: x7 :: x8 :: x9 :: x10 :: x11 :: x12 :: y :: ρ := nrfl rfl
theorem s14 {x0 x1 x2 x3 x4 x5 x6 x7 x8 x9 x10 x11 x12 x13 x14 y : Option D} : List.set (x0 :: x1 :: x2 :: x3 :: x4 :: x5 :: x6 :: x7 :: x8 :: x9 :: x10 :: x11 :: x12 :: x13 :: x14 :: ρ) 14 y = x0 :: x1 :: x2 :: x3 :: x4 :: x5 :: x6 :: x7 :: x8 :: x9 :: x10 :: x11 :: x12 :: x13 :: y :: ρ := nrfl rfl
theorem s15 {x0 x1 x2 x3 x4 x5 x6 x7 x8 x9 x10 x11 x12 x13 x14 x15 y : Option D} : List.set (x0 :: x1 :: x2 :: x3 :: x4 :: x5 :: x6 :: x7 :: x8 :: x9 :: x10 :: x11 :: x12 :: x13 :: x14 :: x15 :: ρ) 15 y = x0 :: x1 :: x2 :: x3 :: x4 :: x5 :: x6 :: x7 :: x8 :: x9 :: x10 :: x11 :: x12 :: x13 :: x14 :: y :: ρ := nrfl rfl
theorem s16 {x0 x1 x2 x3 x4 x5 x6 x7 x8 x9 x10 x11 x12 x13 x14 x15 x16 y : Option D} : List.set (x0 :: x1 :: x2 :: x3 :: x4 :: x5 :: x6 :: x7 :: x8 :: x9 :: x10 :: x11 :: x12 :: x13 :: x14 :: x15 :: x16 :: ρ) 16 y = x0 :: x1 :: x2 :: x3 :: x4 :: x5 :: x6 :: x7 :: x8 :: x9 :: x10 :: x11 :: x12 :: x13 :: x14 :: x15 :: y :: ρ := nrfl rfl
theorem s17 {x0 x1 x2 x3 x4 x5 x6 x7 x8 x9 x10 x11 x12 x13 x14 x15 x16 x17 y : Option D} : List.set (x0 :: x1 :: x2 :: x3 :: x4 :: x5 :: x6 :: x7 :: x8 :: x9 :: x10 :: x11 :: x12 :: x13 :: x14 :: x15 :: x16 :: x17 :: ρ) 17 y = x0 :: x1 :: x2 :: x3 :: x4 :: x5 :: x6 :: x7 :: x8 :: x9 :: x10 :: x11 :: x12 :: x13 :: x14 :: x15 :: x16 :: y :: ρ := nrfl rfl
theorem s18 {x0 x1 x2 x3 x4 x5 x6 x7 x8 x9 x10 x11 x12 x13 x14 x15 x16 x17 x18 y : Option D} : List.set (x0 :: x1 :: x2 :: x3 :: x4 :: x5 :: x6 :: x7 :: x8 :: x9 :: x10 :: x11 :: x12 :: x13 :: x14 :: x15 :: x16 :: x17 :: x18 :: ρ) 18 y = x0 :: x1 :: x2 :: x3 :: x4 :: x5 :: x6 :: x7 :: x8 :: x9 :: x10 :: x11 :: x12 :: x13 :: x14 :: x15 :: x16 :: x17 :: y :: ρ := nrfl rfl
theorem s19 {x0 x1 x2 x3 x4 x5 x6 x7 x8 x9 x10 x11 x12 x13 x14 x15 x16 x17 x18 x19 y : Option D} : List.set (x0 :: x1 :: x2 :: x3 :: x4 :: x5 :: x6 :: x7 :: x8 :: x9 :: x10 :: x11 :: x12 :: x13 :: x14 :: x15 :: x16 :: x17 :: x18 :: x19 :: ρ) 19 y = x0 :: x1 :: x2 :: x3 :: x4 :: x5 :: x6 :: x7 :: x8 :: x9 :: x10 :: x11 :: x12 :: x13 :: x14 :: x15 :: x16 :: x17 :: x18 :: y :: ρ := nrfl rfl
theorem s20 {x0 x1 x2 x3 x4 x5 x6 x7 x8 x9 x10 x11 x12 x13 x14 x15 x16 x17 x18 x19 x20 y : Option D} : List.set (x0 :: x1 :: x2 :: x3 :: x4 :: x5 :: x6 :: x7 :: x8 :: x9 :: x10 :: x11 :: x12 :: x13 :: x14 :: x15 :: x16 :: x17 :: x18 :: x19 :: x20 :: ρ) 20 y = x0 :: x1 :: x2 :: x3 :: x4 :: x5 :: x6 :: x7 :: x8 :: x9 :: x10 :: x11 :: x12 :: x13 :: x14 :: x15 :: x16 :: x17 :: x18 :: x19 :: y :: ρ := nrfl rfl
theorem s21 {x0 x1 x2 x3 x4 x5 x6 x7 x8 x9 x10 x11 x12 x13 x14 x15 x16 x17 x18 x19 x20 x21 y : Option D} : List.set (x0 :: x1 :: x2 :: x3 :: x4 :: x5 :: x6 :: x7 :: x8 :: x9 :: x10 :: x11 :: x12 :: x13 :: x14 :: x15 :: x16 :: x17 :: x18 :: x19 :: x20 :: x21 :: ρ) 21 y = x0 :: x1 :: x2 :: x3 :: x4 :: x5 :: x6 :: x7 :: x8 :: x9 :: x10 :: x11 :: x12 :: x13 :: x14 :: x15 :: x16 :: x17 :: x18 :: x19 :: x20 :: y :: ρ := nrfl rfl
theorem s22 {x0 x1 x2 x3 x4 x5 x6 x7 x8 x9 x10 x11 x12 x13 x14 x15 x16 x17 x18 x19 x20 x21 x22 y : Option D} : List.set (x0 :: x1 :: x2 :: x3 :: x4 :: x5 :: x6 :: x7 :: x8 :: x9 :: x10 :: x11 :: x12 :: x13 :: x14 :: x15 :: x16 :: x17 :: x18 :: x19 :: x20 :: x21 :: x22 :: ρ) 22 y = x0 :: x1 :: x2 :: x3 :: x4 :: x5 :: x6 :: x7 :: x8 :: x9 :: x10 :: x11 :: x12 :: x13 :: x14 :: x15 :: x16 :: x17 :: x18 :: x19 :: x20 :: x21 :: y :: ρ := nrfl rfl
theorem s23 {x0 x1 x2 x3 x4 x5 x6 x7 x8 x9 x10 x11 x12 x13 x14 x15 x16 x17 x18 x19 x20 x21 x22 x23 y : Option D} : List.set (x0 :: x1 :: x2 :: x3 :: x4 :: x5 :: x6 :: x7 :: x8 :: x9 :: x10 :: x11 :: x12 :: x13 :: x14 :: x15 :: x16 :: x17 :: x18 :: x19 :: x20 :: x21 :: x22 :: x23 :: ρ) 23 y = x0 :: x1 :: x2 :: x3 :: x4 :: x5 :: x6 :: x7 :: x8 :: x9 :: x10 :: x11 :: x12 :: x13 :: x14 :: x15 :: x16 :: x17 :: x18 :: x19 :: x20 :: x21 :: x22 :: y :: ρ := nrfl rfl
theorem s24 {x0 x1 x2 x3 x4 x5 x6 x7 x8 x9 x10 x11 x12 x13 x14 x15 x16 x17 x18 x19 x20 x21 x22 x23 x24 y : Option D} : List.set (x0 :: x1 :: x2 :: x3 :: x4 :: x5 :: x6 :: x7 :: x8 :: x9 :: x10 :: x11 :: x12 :: x13 :: x14 :: x15 :: x16 :: x17 :: x18 :: x19 :: x20 :: x21 :: x22 :: x23 :: x24 :: ρ) 24 y = x0 :: x1 :: x2 :: x3 :: x4 :: x5 :: x6 :: x7 :: x8 :: x9 :: x10 :: x11 :: x12 :: x13 :: x14 :: x15 :: x16 :: x17 :: x18 :: x19 :: x20 :: x21 :: x22 :: x23 :: y :: ρ := nrfl rfl
theorem s25 {x0 x1 x2 x3 x4 x5 x6 x7 x8 x9 x10 x11 x12 x13 x14 x15 x16 x17 x18 x19 x20 x21 x22 x23 x24 x25 y : Option D} : List.set (x0 :: x1 :: x2 :: x3 :: x4 :: x5 :: x6 :: x7 :: x8 :: x9 :: x10 :: x11 :: x12 :: x13 :: x14 :: x15 :: x16 :: x17 :: x18 :: x19 :: x20 :: x21 :: x22 :: x23 :: x24 :: x25 :: ρ) 25 y = x0 :: x1 :: x2 :: x3 :: x4 :: x5 :: x6 :: x7 :: x8 :: x9 :: x10 :: x11 :: x12 :: x13 :: x14 :: x15 :: x16 :: x17 :: x18 :: x19 :: x20 :: x21 :: x22 :: x23 :: x24 :: y :: ρ := nrfl rfl
theorem s26 {x0 x1 x2 x3 x4 x5 x6 x7 x8 x9 x10 x11 x12 x13 x14 x15 x16 x17 x18 x19 x20 x21 x22 x23 x24 x25 x26 y : Option D} : List.set (x0 :: x1 :: x2 :: x3 :: x4 :: x5 :: x6 :: x7 :: x8 :: x9 :: x10 :: x11 :: x12 :: x13 :: x14 :: x15 :: x16 :: x17 :: x18 :: x19 :: x20 :: x21 :: x22 :: x23 :: x24 :: x25 :: x26 :: ρ) 26 y = x0 :: x1 :: x2 :: x3 :: x4 :: x5 :: x6 :: x7 :: x8 :: x9 :: x10 :: x11 :: x12 :: x13 :: x14 :: x15 :: x16 :: x17 :: x18 :: x19 :: x20 :: x21 :: x22 :: x23 :: x24 :: x25 :: y :: ρ := nrfl rfl
theorem s27 {x0 x1 x2 x3 x4 x5 x6 x7 x8 x9 x10 x11 x12 x13 x14 x15 x16 x17 x18 x19 x20 x21 x22 x23 x24 x25 x26 x27 y : Option D} : List.set (x0 :: x1 :: x2 :: x3 :: x4 :: x5 :: x6 :: x7 :: x8 :: x9 :: x10 :: x11 :: x12 :: x13 :: x14 :: x15 :: x16 :: x17 :: x18 :: x19 :: x20 :: x21 :: x22 :: x23 :: x24 :: x25 :: x26 :: x27 :: ρ) 27 y = x0 :: x1 :: x2 :: x3 :: x4 :: x5 :: x6 :: x7 :: x8 :: x9 :: x10 :: x11 :: x12 :: x13 :: x14 :: x15 :: x16 :: x17 :: x18 :: x19 :: x20 :: x21 :: x22 :: x23 :: x24 :: x25 :: x26 :: y :: ρ := nrfl rfl
theorem s28 {x0 x1 x2 x3 x4 x5 x6 x7 x8 x9 x10 x11 x12 x13 x14 x15 x16 x17 x18 x19 x20 x21 x22 x23 x24 x25 x26 x27 x28 y : Option D} : List.set (x0 :: x1 :: x2 :: x3 :: x4 :: x5 :: x6 :: x7 :: x8 :: x9 :: x10 :: x11 :: x12 :: x13 :: x14 :: x15 :: x16 :: x17 :: x18 :: x19 :: x20 :: x21 :: x22 :: x23 :: x24 :: x25 :: x26 :: x27 :: x28 :: ρ) 28 y = x0 :: x1 :: x2 :: x3 :: x4 :: x5 :: x6 :: x7 :: x8 :: x9 :: x10 :: x11 :: x12 :: x13 :: x14 :: x15 :: x16 :: x17 :: x18 :: x19 :: x20 :: x21 :: x22 :: x23 :: x24 :: x25 :: x26 :: x27 :: y :: ρ := nrfl rfl
theorem s29 {x0 x1 x2 x3 x4 x5 x6 x7 x8 x9 x10 x11 x12 x13 x14 x15 x16 x17 x18 x19 x20 x21 x22 x23 x24 x25 x26 x27 x28 x29 y : Option D} : List.set (x0 :: x1 :: x2 :: x3 :: x4 :: x5 :: x6 :: x7 :: x8 :: x9 :: x10 :: x11 :: x12 :: x13 :: x14 :: x15 :: x16 :: x17 :: x18 :: x19 :: x20 :: x21 :: x22 :: x23 :: x24 :: x25 :: x26 :: x27 :: x28 :: x29 :: ρ) 29 y = x0 :: x1 :: x2 :: x3 :: x4 :: x5 :: x6 :: x7 :: x8 :: x9 :: x10 :: x11 :: x12 :: x13 :: x14 :: x15 :: x16 :: x17 :: x18 :: x19 :: x20 :: x21 :: x22 :: x23 :: x24 :: x25 :: x26 :: x27 :: x28 :: y :: ρ := nrfl rfl
theorem startD_cons {n : Nat} {ds : List D} : startD (n + 1) (d :: ds) = some d :: startD n ds := by simp [startD]
theorem startD_nil {n : Nat} : startD (n + 1) [] = none :: startD n [] := by simp [startD, List.replicate_succ]
theorem startD_zero : startD 0 [] = [] := rfl
theorem a_nm {i : Nat} : wAsg (.nm i) ρ N d S = N (ρ.set i (some d)) S := nrfl rfl
theorem a_tp1 {i0 : Nat} {d0 : D} : wAsg (.tp [.nm i0]) ρ N (.tup [d0]) S = N (ρ.set i0 (some d0)) S := nrfl rfl
theorem a_tp2 {i0 i1 : Nat} {d0 d1 : D} : wAsg (.tp [.nm i0, .nm i1]) ρ N (.tup [d0, d1]) S = N ((ρ.set i0 (some d0)).set i1 (some d1)) S := nrfl rfl
theorem a_tp3 {i0 i1 i2 : Nat} {d0 d1 d2 : D} : wAsg (.tp [.nm i0, .nm i1, .nm i2]) ρ N (.tup [d0, d1, d2]) S = N (((ρ.set i0 (some d0)).set i1 (some d1)).set i2 (some d2)) S := nrfl rfl
theorem a_tp4 {i0 i1 i2 i3 : Nat} {d0 d1 d2 d3 : D} : wAsg (.tp [.nm i0, .nm i1, .nm i2, .nm i3]) ρ N (.tup [d0, d1, d2, d3]) S = N ((((ρ.set i0 (some d0)).set i1 (some d1)).set i2 (some d2)).set i3 (some d3)) S := nrfl rfl
theorem a_tp5 {i0 i1 i2 i3 i4 : Nat} {d0 d1 d2 d3 d4 : D} : wAsg (.tp [.nm i0, .nm i1, .nm i2, .nm i3, .nm i4]) ρ N (.tup [d0, d1, d2, d3, d4]) S = N (((((ρ.set i0 (some d0)).set i1 (some d1)).set i2 (some d2)).set i3 (some d3)).set i4 (some d4)) S := nrfl rfl
theorem a_tpn {i0 i1 i2 : Nat} {d0 d1 d2 : D} : wAsg (.tp [.nm i0, .tp [.nm i1, .nm i2]]) ρ N (.tup [d0, .tup [d1, d2]]) S = N (((ρ.set i0 (some d0)).set i1 (some d1)).set i2 (some d2)) S := nrfl rfl
theorem a_tpm {i0 i1 i2 : Nat} {d0 d1 d2 : D} : wAsg (.tp [.tp [.nm i1, .nm i2], .nm i0]) ρ N (.tup [.tup [d1, d2], d0]) S = N (((ρ.set i1 (some d1)).set i2 (some d2)).set i0 (some d0)) S := nrfl rfl
theorem a_encP {i0 i1 : Nat} {p : Int × Int} : wAsg (.tp [.nm i0, .nm i1]) ρ N (encP p) S = N ((ρ.set i0 (some (.int p.1))).set i1 (some (.int p.2))) S := nrfl rfl
theorem wipe_nil : wipeD ρ [] = ρ := nrfl rfl
theorem wipe_cons {v : Nat} {vs : List Nat} : wipeD ρ (v :: vs) = (wipeD ρ vs).set v none := rfl
theorem o_add : dAdd (.int i) (.int j) S = some (.int (i + j)) := nrfl rfl
theorem o_sub : dSub (.int i) (.int j) S = some (.int (i - j)) := nrfl rfl
theorem o_neg : dNeg (.int i) S = some (.int (-i)) := nrfl rfl
theorem o_ite {c : Prop} [Decidable c] {a : α} {Q : α → Cells → Prop} : wpo (if c then some a else none) S Q = (c ∧ Q a S) := by
  by_cases h : c
  · rw [if_pos h]; exact propext ⟨fun q => ⟨h, q⟩, fun q => q.2⟩
  · rw [if_neg h]; exact propext ⟨fun q => q.elim, fun q => absurd q.1 h⟩
theorem o_mul : wpo (dMul (.int i) (.int j) S) S' Q = (okMul i j = true ∧ Q (.int (i * j)) S') := o_ite
def okDiv (j : Int) : Prop := 0 < j ∧ j.natAbs.log2 < 9000
theorem okDiv_of {j : Int} (h : 0 < j) (h2 : j.natAbs < 2 ^ 8999) : okDiv j := ⟨h, Nat.lt_of_lt_of_le (PySem.Flt.log2_lt_of (by decide) h2) (by decide)⟩
theorem o_div : wpo (dDiv (.int i) (.int j) S) S' Q = (okDiv j ∧ Q (.int (i / j)) S') := o_ite
theorem o_mod : wpo (dMod (.int i) (.int j) S) S' Q = (0 < j ∧ Q (.int (i % j)) S') := o_ite
def okPow (i j : Int) : Prop := 0 ≤ j ∧ (Builtin.Int.intBits i : Int) * j ≤ 2 ^ 27
theorem o_pow : wpo (dPow (.int i) (.int j) S) S' Q = (okPow i j ∧ Q (.int (i ^ j.toNat)) S') := o_ite
theorem o_p10_3 : wpo (dPow (.int 10) (.int 3) S) S' Q = Q (.int 1000) S' := by rw [show dPow (.int 10) (.int 3) S = some (.int 1000) by kernel_rfl]; rfl
theorem o_p10_4 : wpo (dPow (.int 10) (.int 4) S) S' Q = Q (.int 10000) S' := by rw [show dPow (.int 10) (.int 4) S = some (.int 10000) by kernel_rfl]; rfl
theorem o_p10_6 : wpo (dPow (.int 10) (.int 6) S) S' Q = Q (.int 1000000) S' := by rw [show dPow (.int 10) (.int 6) S = some (.int 1000000) by kernel_rfl]; rfl
theorem o_p10_8 : wpo (dPow (.int 10) (.int 8) S) S' Q = Q (.int 100000000) S' := by rw [show dPow (.int 10) (.int 8) S = some (.int 100000000) by kernel_rfl]; rfl
theorem o_p10_9 : wpo (dPow (.int 10) (.int 9) S) S' Q = Q (.int 1000000000) S' := by rw [show dPow (.int 10) (.int 9) S = some (.int 1000000000) by kernel_rfl]; rfl
theorem o_p10_12 : wpo (dPow (.int 10) (.int 12) S) S' Q = Q (.int 1000000000000) S' := by rw [show dPow (.int 10) (.int 12) S = some (.int 1000000000000) by kernel_rfl]; rfl
theorem o_p10_15 : wpo (dPow (.int 10) (.int 15) S) S' Q = Q (.int 1000000000000000) S' := by rw [show dPow (.int 10) (.int 15) S = some (.int 1000000000000000) by kernel_rfl]; rfl
theorem o_p10_18 : wpo (dPow (.int 10) (.int 18) S) S' Q = Q (.int 1000000000000000000) S' := by rw [show dPow (.int 10) (.int 18) S = some (.int 1000000000000000000) by kernel_rfl]; rfl
theorem o_p10_20 : wpo (dPow (.int 10) (.int 20) S) S' Q = Q (.int 100000000000000000000) S' := by rw [show dPow (.int 10) (.int 20) S = some (.int 100000000000000000000) by kernel_rfl]; rfl
theorem o_p10_25 : wpo (dPow (.int 10) (.int 25) S) S' Q = Q (.int 10000000000000000000000000) S' := by rw [show dPow (.int 10) (.int 25) S = some (.int 10000000000000000000000000) by kernel_rfl]; rfl
theorem o_p10_26 : wpo (dPow (.int 10) (.int 26) S) S' Q = Q (.int 100000000000000000000000000) S' := by rw [show dPow (.int 10) (.int 26) S = some (.int 100000000000000000000000000) by kernel_rfl]; rfl
theorem o_p10_27 : wpo (dPow (.int 10) (.int 27) S) S' Q = Q (.int 1000000000000000000000000000) S' := by rw [show dPow (.int 10) (.int 27) S = some (.int 1000000000000000000000000000) by kernel_rfl]; rfl
theorem o_p10_28 : wpo (dPow (.int 10) (.int 28) S) S' Q = Q (.int 10000000000000000000000000000) S' := by rw [show dPow (.int 10) (.int 28) S = some (.int 10000000000000000000000000000) by kernel_rfl]; rfl
theorem o_p10_29 : wpo (dPow (.int 10) (.int 29) S) S' Q = Q (.int 100000000000000000000000000000) S' := by rw [show dPow (.int 10) (.int 29) S = some (.int 100000000000000000000000000000) by kernel_rfl]; rfl
theorem o_p10_30 : wpo (dPow (.int 10) (.int 30) S) S' Q = Q (.int 1000000000000000000000000000000) S' := by rw [show dPow (.int 10) (.int 30) S = some (.int 1000000000000000000000000000000) by kernel_rfl]; rfl
theorem o_p10_31 : wpo (dPow (.int 10) (.int 31) S) S' Q = Q (.int 10000000000000000000000000000000) S' := by rw [show dPow (.int 10) (.int 31) S = some (.int 10000000000000000000000000000000) by kernel_rfl]; rfl
theorem o_p10_36 : wpo (dPow (.int 10) (.int 36) S) S' Q = Q (.int 1000000000000000000000000000000000000) S' := by rw [show dPow (.int 10) (.int 36) S = some (.int 1000000000000000000000000000000000000) by kernel_rfl]; rfl
theorem o_p10_38 : wpo (dPow (.int 10) (.int 38) S) S' Q = Q (.int 100000000000000000000000000000000000000) S' := by rw [show dPow (.int 10) (.int 38) S = some (.int 100000000000000000000000000000000000000) by kernel_rfl]; rfl
theorem o_p10_40 : wpo (dPow (.int 10) (.int 40) S) S' Q = Q (.int 10000000000000000000000000000000000000000) S' := by rw [show dPow (.int 10) (.int 40) S = some (.int 10000000000000000000000000000000000000000) by kernel_rfl]; rfl
theorem o_p10_42 : wpo (dPow (.int 10) (.int 42) S) S' Q = Q (.int 1000000000000000000000000000000000000000000) S' := by rw [show dPow (.int 10) (.int 42) S = some (.int 1000000000000000000000000000000000000000000) by kernel_rfl]; rfl
theorem o_p10_44 : wpo (dPow (.int 10) (.int 44) S) S' Q = Q (.int 100000000000000000000000000000000000000000000) S' := by rw [show dPow (.int 10) (.int 44) S = some (.int 100000000000000000000000000000000000000000000) by kernel_rfl]; rfl
theorem o_p10_46 : wpo (dPow (.int 10) (.int 46) S) S' Q = Q (.int 10000000000000000000000000000000000000000000000) S' := by rw [show dPow (.int 10) (.int 46) S = some (.int 10000000000000000000000000000000000000000000000) by kernel_rfl]; rfl
theorem o_p10_48 : wpo (dPow (.int 10) (.int 48) S) S' Q = Q (.int 1000000000000000000000000000000000000000000000000) S' := by rw [show dPow (.int 10) (.int 48) S = some (.int 1000000000000000000000000000000000000000000000000) by kernel_rfl]; rfl
theorem o_p10_50 : wpo (dPow (.int 10) (.int 50) S) S' Q = Q (.int 100000000000000000000000000000000000000000000000000) S' := by rw [show dPow (.int 10) (.int 50) S = some (.int 100000000000000000000000000000000000000000000000000) by kernel_rfl]; rfl
theorem o_p10_60 : wpo (dPow (.int 10) (.int 60) S) S' Q = Q (.int 1000000000000000000000000000000000000000000000000000000000000) S' := by rw [show dPow (.int 10) (.int 60) S = some (.int 1000000000000000000000000000000000000000000000000000000000000) by kernel_rfl]; rfl
theorem o_p10_64 : wpo (dPow (.int 10) (.int 64) S) S' Q = Q (.int 10000000000000000000000000000000000000000000000000000000000000000) S' := by rw [show dPow (.int 10) (.int 64) S = some (.int 10000000000000000000000000000000000000000000000000000000000000000) by kernel_rfl]; rfl
theorem o_p10_70 : wpo (dPow (.int 10) (.int 70) S) S' Q = Q (.int 10000000000000000000000000000000000000000000000000000000000000000000000) S' := by rw [show dPow (.int 10) (.int 70) S = some (.int 10000000000000000000000000000000000000000000000000000000000000000000000) by kernel_rfl]; rfl
theorem o_p10_90 : wpo (dPow (.int 10) (.int 90) S) S' Q = Q (.int 1000000000000000000000000000000000000000000000000000000000000000000000000000000000000000000) S' := by rw [show dPow (.int 10) (.int 90) S = some (.int 1000000000000000000000000000000000000000000000000000000000000000000000000000000000000000000) by kernel_rfl]; rfl
theorem o_p10_99 : wpo (dPow (.int 10) (.int 99) S) S' Q = Q (.int 1000000000000000000000000000000000000000000000000000000000000000000000000000000000000000000000000000) S' := by rw [show dPow (.int 10) (.int 99) S = some (.int 1000000000000000000000000000000000000000000000000000000000000000000000000000000000000000000000000000) by kernel_rfl]; rfl
theorem o_p10_100 : wpo (dPow (.int 10) (.int 100) S) S' Q = Q (.int 10000000000000000000000000000000000000000000000000000000000000000000000000000000000000000000000000000) S' := by rw [show dPow (.int 10) (.int 100) S = some (.int 10000000000000000000000000000000000000000000000000000000000000000000000000000000000000000000000000000) by kernel_rfl]; rfl
theorem o_addS : wpo (dAdd (.str x) (.str y) S) S' Q = (x.length + y.length ≤ sizeLine ∧ Q (.str (x ++ y)) S') := o_ite
theorem o_addT : wpo (dAdd (.tup l) (.tup m) S) S' Q = (l.length + m.length ≤ sizeLine ∧ Q (.tup (l ++ m)) S') := o_ite
theorem o_catL : wpo (catL (.lst l) (.lst m) S) S' QL = (l.length + m.length ≤ sizeLine ∧ QL (l ++ m) S') := o_ite
theorem o_addL : wpo (dAdd (.lst l) (.lst m) S) S' Q = (l.length + m.length ≤ sizeLine ∧ Q (.lst (l ++ m)) S') := by
  show wpo ((catL (.lst l) (.lst m) S).map .lst) S' Q = _
  show wpo ((if l.length + m.length ≤ sizeLine then some (l ++ m) else none).map .lst) S' Q = _
  by_cases h : l.length + m.length ≤ sizeLine
  · rw [if_pos h]; exact propext ⟨fun q => ⟨h, q⟩, fun q => q.2⟩
  · rw [if_neg h]; exact propext ⟨fun q => q.elim, fun q => absurd q.1 h⟩
theorem o_lt : dLt (.int i) (.int j) S = some (.bl (decide (i < j))) := nrfl rfl
theorem o_le : dLe (.int i) (.int j) S = some (.bl (decide (i ≤ j))) := nrfl rfl
theorem o_gt : dGt (.int i) (.int j) S = some (.bl (decide (j < i))) := nrfl rfl
theorem o_ge : dGe (.int i) (.int j) S = some (.bl (decide (j ≤ i))) := nrfl rfl
theorem o_eqI : dEq (.int i) (.int j) S = some (.bl (decide (i = j))) := dEq_int
theorem o_neI : dNe (.int i) (.int j) S = some (.bl (!decide (i = j))) := dNe_int
theorem o_eqS : dEq (.str x) (.str y) S = some (.bl (decide (x = y))) := nrfl rfl
theorem o_neS : dNe (.str x) (.str y) S = some (.bl (!decide (x = y))) := nrfl rfl
theorem o_is : dIs d .non S = some (.bl (isNon d)) := nrfl rfl
theorem o_isn : dIsNot d .non S = some (.bl (!isNon d)) := nrfl rfl
theorem n_non : isNon .non = true := nrfl rfl
theorem n_bl {b : Bool} : isNon (.bl b) = false := nrfl rfl
theorem n_int : isNon (.int i) = false := nrfl rfl
theorem n_str : isNon (.str x) = false := nrfl rfl
theorem n_lst : isNon (.lst l) = false := nrfl rfl
theorem n_tup : isNon (.tup l) = false := nrfl rfl
theorem n_ref {n : Nat} : isNon (.ref n) = false := nrfl rfl
theorem n_obj {n : Nat} : isNon (.obj n l) = false := nrfl rfl
theorem i_non_int : isiD tabInt .non S = some (.bl false) := nrfl rfl
theorem i_non_bool : isiD (tabIs "bool") .non S = some (.bl false) := nrfl rfl
theorem i_non_str : isiD (tabIs "str") .non S = some (.bl false) := nrfl rfl
theorem i_non_list : isiD (tabIs "list") .non S = some (.bl false) := nrfl rfl
theorem i_non_tuple : isiD (tabIs "tuple") .non S = some (.bl false) := nrfl rfl
theorem i_bl_int {b : Bool} : isiD tabInt (.bl b) S = some (.bl true) := nrfl rfl
theorem i_bl_bool {b : Bool} : isiD (tabIs "bool") (.bl b) S = some (.bl true) := nrfl rfl
theorem i_bl_str {b : Bool} : isiD (tabIs "str") (.bl b) S = some (.bl false) := nrfl rfl
theorem i_bl_list {b : Bool} : isiD (tabIs "list") (.bl b) S = some (.bl false) := nrfl rfl
theorem i_bl_tuple {b : Bool} : isiD (tabIs "tuple") (.bl b) S = some (.bl false) := nrfl rfl
theorem i_int_int : isiD tabInt (.int i) S = some (.bl true) := nrfl rfl
theorem i_int_bool : isiD (tabIs "bool") (.int i) S = some (.bl false) := nrfl rfl
theorem i_int_str : isiD (tabIs "str") (.int i) S = some (.bl false) := nrfl rfl
theorem i_int_list : isiD (tabIs "list") (.int i) S = some (.bl false) := nrfl rfl
theorem i_int_tuple : isiD (tabIs "tuple") (.int i) S = some (.bl false) := nrfl rfl
theorem i_str_int : isiD tabInt (.str x) S = some (.bl false) := nrfl rfl
theorem i_str_bool : isiD (tabIs "bool") (.str x) S = some (.bl false) := nrfl rfl
theorem i_str_str : isiD (tabIs "str") (.str x) S = some (.bl true) := nrfl rfl
theorem i_str_list : isiD (tabIs "list") (.str x) S = some (.bl false) := nrfl rfl
theorem i_str_tuple : isiD (tabIs "tuple") (.str x) S = some (.bl false) := nrfl rfl
theorem i_lst_int : isiD tabInt (.lst l) S = some (.bl false) := nrfl rfl
theorem i_lst_bool : isiD (tabIs "bool") (.lst l) S = some (.bl false) := nrfl rfl
theorem i_lst_str : isiD (tabIs "str") (.lst l) S = some (.bl false) := nrfl rfl
theorem i_lst_list : isiD (tabIs "list") (.lst l) S = some (.bl true) := nrfl rfl
theorem i_lst_tuple : isiD (tabIs "tuple") (.lst l) S = some (.bl false) := nrfl rfl
theorem i_tup_int : isiD tabInt (.tup l) S = some (.bl false) := nrfl rfl
theorem i_tup_bool : isiD (tabIs "bool") (.tup l) S = some (.bl false) := nrfl rfl
theorem i_tup_str : isiD (tabIs "str") (.tup l) S = some (.bl false) := nrfl rfl
theorem i_tup_list : isiD (tabIs "list") (.tup l) S = some (.bl false) := nrfl rfl
theorem i_tup_tuple : isiD (tabIs "tuple") (.tup l) S = some (.bl true) := nrfl rfl
theorem t_non : truD .non S = some false := nrfl rfl
theorem t_bl {b : Bool} : truD (.bl b) S = some b := nrfl rfl
theorem t_int : truD (.int i) S = some (!decide (i = 0)) := by
  show some (i != 0) = some (!decide (i = 0))
  have : (i != 0) = !decide (i = 0) := by rw [Bool.eq_iff_iff]; simp
  rw [this]
theorem t_lst : truD (.lst l) S = some (!l.isEmpty) := nrfl rfl
theorem t_tup : truD (.tup l) S = some (!l.isEmpty) := nrfl rfl
def wAt (l : List D) (k : Int) (S : Cells) (Q : D → Cells → Prop) : Prop := ∃ d, atI l k = some d ∧ Q d S
theorem wAt_of {o : Option D} : wpo o S Q = ∃ d, o = some d ∧ Q d S := by
  cases o with
  | none => exact propext ⟨fun q => q.elim, fun ⟨_, e, _⟩ => nomatch e⟩
  | some a => exact propext ⟨fun q => ⟨a, rfl, q⟩, fun ⟨_, e, q⟩ => by cases e; exact q⟩
theorem x_lst : wpo (ixD (.lst l) (.int k) S) S' Q = wAt l k S' Q := wAt_of
theorem x_tup : wpo (ixD (.tup l) (.int k) S) S' Q = wAt l k S' Q := wAt_of
theorem x_encP0 {p : Int × Int} : wpo (ixD (encP p) (.int 0) S) S' Q = Q (.int p.1) S' := nrfl rfl
theorem x_encP1 {p : Int × Int} : wpo (ixD (encP p) (.int 1) S) S' Q = Q (.int p.2) S' := nrfl rfl
theorem wAt_some {k : Int} (h : atI l k = some d) : wAt l k S Q = Q d S := propext ⟨fun ⟨_, e, q⟩ => by rw [h] at e; cases e; exact q, fun q => ⟨d, h, q⟩⟩
theorem wAt_nat {n : Nat} (h : l[n]? = some d) (q : Q d S) : wAt l (n : Int) S Q := ⟨d, atI_nat h, q⟩
theorem wAt_i {k : Int} (h0 : 0 ≤ k) (h : l[k.toNat]? = some d) (q : Q d S) : wAt l k S Q := by
  have e : k = (k.toNat : Int) := by omega
  rw [e]
  exact wAt_nat h q
theorem ixn1_0 : ixN 1 0 = some 0 := nrfl rfl
theorem ixn1_m1 : ixN 1 (-1) = some 0 := nrfl rfl
theorem ixn2_0 : ixN 2 0 = some 0 := nrfl rfl
theorem ixn2_1 : ixN 2 1 = some 1 := nrfl rfl
theorem ixn2_m1 : ixN 2 (-1) = some 1 := nrfl rfl
theorem ixn3_0 : ixN 3 0 = some 0 := nrfl rfl
theorem ixn3_1 : ixN 3 1 = some 1 := nrfl rfl
theorem ixn3_2 : ixN 3 2 = some 2 := nrfl rfl
theorem ixn3_m1 : ixN 3 (-1) = some 2 := nrfl rfl
theorem ixn4_0 : ixN 4 0 = some 0 := nrfl rfl
theorem ixn4_1 : ixN 4 1 = some 1 := nrfl rfl
theorem ixn4_2 : ixN 4 2 = some 2 := nrfl rfl
theorem ixn4_3 : ixN 4 3 = some 3 := nrfl rfl
theorem ixn4_m1 : ixN 4 (-1) = some 3 := nrfl rfl
theorem ixn5_0 : ixN 5 0 = some 0 := nrfl rfl
theorem ixn5_1 : ixN 5 1 = some 1 := nrfl rfl
theorem ixn5_2 : ixN 5 2 = some 2 := nrfl rfl
theorem ixn5_3 : ixN 5 3 = some 3 := nrfl rfl
theorem ixn5_4 : ixN 5 4 = some 4 := nrfl rfl
theorem ixn5_m1 : ixN 5 (-1) = some 4 := nrfl rfl
theorem ixn6_0 : ixN 6 0 = some 0 := nrfl rfl
theorem ixn6_1 : ixN 6 1 = some 1 := nrfl rfl
theorem ixn6_2 : ixN 6 2 = some 2 := nrfl rfl
theorem ixn6_3 : ixN 6 3 = some 3 := nrfl rfl
theorem ixn6_4 : ixN 6 4 = some 4 := nrfl rfl
theorem ixn6_5 : ixN 6 5 = some 5 := nrfl rfl
theorem ixn6_m1 : ixN 6 (-1) = some 5 := nrfl rfl
theorem ixn7_0 : ixN 7 0 = some 0 := nrfl rfl
theorem ixn7_1 : ixN 7 1 = some 1 := nrfl rfl
theorem ixn7_2 : ixN 7 2 = some 2 := nrfl rfl
theorem ixn7_3 : ixN 7 3 = some 3 := nrfl rfl
theorem ixn7_4 : ixN 7 4 = some 4 := nrfl rfl
theorem ixn7_5 : ixN 7 5 = some 5 := nrfl rfl
theorem ixn7_6 : ixN 7 6 = some 6 := nrfl rfl
theorem ixn7_m1 : ixN 7 (-1) = some 6 := nrfl rfl
theorem ixn8_0 : ixN 8 0 = some 0 := nrfl rfl
theorem ixn8_1 : ixN 8 1 = some 1 := nrfl rfl
theorem ixn8_2 : ixN 8 2 = some 2 := nrfl rfl
theorem ixn8_3 : ixN 8 3 = some 3 := nrfl rfl
theorem ixn8_4 : ixN 8 4 = some 4 := nrfl rfl
theorem ixn8_5 : ixN 8 5 = some 5 := nrfl rfl
theorem ixn8_6 : ixN 8 6 = some 6 := nrfl rfl
theorem ixn8_7 : ixN 8 7 = some 7 := nrfl rfl
theorem ixn8_m1 : ixN 8 (-1) = some 7 := nrfl rfl
theorem x1_0 {d0 : D} : wAt [d0] 0 S Q = Q d0 S := wAt_some rfl
theorem x1_m1 {d0 : D} : wAt [d0] (-1) S Q = Q d0 S := wAt_some rfl
theorem x2_0 {d0 d1 : D} : wAt [d0, d1] 0 S Q = Q d0 S := wAt_some rfl
theorem x2_1 {d0 d1 : D} : wAt [d0, d1] 1 S Q = Q d1 S := wAt_some rfl
theorem x2_m1 {d0 d1 : D} : wAt [d0, d1] (-1) S Q = Q d1 S := wAt_some rfl
theorem at_2 {d0 d1 : D} (h0' : 0 ≤ k) (h1' : k < 2) (h0 : k = 0 → Q d0 S) (h1 : k = 1 → Q d1 S) : wAt [d0, d1] k S Q := by
  have e : k = (k.toNat : Int) := by omega
  unfold wAt
  rw [e]
  match q : k.toNat with
  | 0 => exact ⟨_, rfl, h0 (by omega)⟩
  | 1 => exact ⟨_, rfl, h1 (by omega)⟩
  | n + 2 => exfalso; omega
theorem x3_0 {d0 d1 d2 : D} : wAt [d0, d1, d2] 0 S Q = Q d0 S := wAt_some rfl
theorem x3_1 {d0 d1 d2 : D} : wAt [d0, d1, d2] 1 S Q = Q d1 S := wAt_some rfl
theorem x3_2 {d0 d1 d2 : D} : wAt [d0, d1, d2] 2 S Q = Q d2 S := wAt_some rfl
theorem x3_m1 {d0 d1 d2 : D} : wAt [d0, d1, d2] (-1) S Q = Q d2 S := wAt_some rfl
theorem at_3 {d0 d1 d2 : D} (h0' : 0 ≤ k) (h1' : k < 3) (h0 : k = 0 → Q d0 S) (h1 : k = 1 → Q d1 S) (h2 : k = 2 → Q d2 S) : wAt [d0, d1, d2] k S Q := by
  have e : k = (k.toNat : Int) := by omega
  unfold wAt
  rw [e]
  match q : k.toNat with
  | 0 => exact ⟨_, rfl, h0 (by omega)⟩
  | 1 => exact ⟨_, rfl, h1 (by omega)⟩
  | 2 => exact ⟨_, rfl, h2 (by omega)⟩
  | n + 3 => exfalso; omega
theorem x4_0 {d0 d1 d2 d3 : D} : wAt [d0, d1, d2, d3] 0 S Q = Q d0 S := wAt_some rfl
theorem x4_1 {d0 d1 d2 d3 : D} : wAt [d0, d1, d2, d3] 1 S Q = Q d1 S := wAt_some rfl
theorem x4_2 {d0 d1 d2 d3 : D} : wAt [d0, d1, d2, d3] 2 S Q = Q d2 S := wAt_some rfl
theorem x4_3 {d0 d1 d2 d3 : D} : wAt [d0, d1, d2, d3] 3 S Q = Q d3 S := wAt_some rfl
theorem x4_m1 {d0 d1 d2 d3 : D} : wAt [d0, d1, d2, d3] (-1) S Q = Q d3 S := wAt_some rfl
theorem at_4 {d0 d1 d2 d3 : D} (h0' : 0 ≤ k) (h1' : k < 4) (h0 : k = 0 → Q d0 S) (h1 : k = 1 → Q d1 S) (h2 : k = 2 → Q d2 S) (h3 : k = 3 → Q d3 S) : wAt [d0, d1, d2, d3] k S Q := by
  have e : k = (k.toNat : Int) := by omega
  unfold wAt
  rw [e]
  match q : k.toNat with
  | 0 => exact ⟨_, rfl, h0 (by omega)⟩
  | 1 => exact ⟨_, rfl, h1 (by omega)⟩
  | 2 => exact ⟨_, rfl, h2 (by omega)⟩
  | 3 => exact ⟨_, rfl, h3 (by omega)⟩
  | n + 4 => exfalso; omega
theorem x5_0 {d0 d1 d2 d3 d4 : D} : wAt [d0, d1, d2, d3, d4] 0 S Q = Q d0 S := wAt_some rfl
theorem x5_1 {d0 d1 d2 d3 d4 : D} : wAt [d0, d1, d2, d3, d4] 1 S Q = Q d1 S := wAt_some rfl
theorem x5_2 {d0 d1 d2 d3 d4 : D} : wAt [d0, d1, d2, d3, d4] 2 S Q = Q d2 S := wAt_some rfl
theorem x5_3 {d0 d1 d2 d3 d4 : D} : wAt [d0, d1, d2, d3, d4] 3 S Q = Q d3 S := wAt_some rfl
theorem x5_4 {d0 d1 d2 d3 d4 : D} : wAt [d0, d1, d2, d3, d4] 4 S Q = Q d4 S := wAt_some rfl
theorem x5_m1 {d0 d1 d2 d3 d4 : D} : wAt [d0, d1, d2, d3, d4] (-1) S Q = Q d4 S := wAt_some rfl
theorem at_5 {d0 d1 d2 d3 d4 : D} (h0' : 0 ≤ k) (h1' : k < 5) (h0 : k = 0 → Q d0 S) (h1 : k = 1 → Q d1 S) (h2 : k = 2 → Q d2 S) (h3 : k = 3 → Q d3 S) (h4 : k = 4 → Q d4 S) : wAt [d0, d1, d2, d3, d4] k S Q := by
  have e : k = (k.toNat : Int) := by omega
  unfold wAt
  rw [e]
  match q : k.toNat with
  | 0 => exact ⟨_, rfl, h0 (by omega)⟩
  | 1 => exact ⟨_, rfl, h1 (by omega)⟩
  | 2 => exact ⟨_, rfl, h2 (by omega)⟩
  | 3 => exact ⟨_, rfl, h3 (by omega)⟩
  | 4 => exact ⟨_, rfl, h4 (by omega)⟩
  | n + 5 => exfalso; omega
theorem x6_0 {d0 d1 d2 d3 d4 d5 : D} : wAt [d0, d1, d2, d3, d4, d5] 0 S Q = Q d0 S := wAt_some rfl
theorem x6_1 {d0 d1 d2 d3 d4 d5 : D} : wAt [d0, d1, d2, d3, d4, d5] 1 S Q = Q d1 S := wAt_some rfl
theorem x6_2 {d0 d1 d2 d3 d4 d5 : D} : wAt [d0, d1, d2, d3, d4, d5] 2 S Q = Q d2 S := wAt_some rfl
theorem x6_3 {d0 d1 d2 d3 d4 d5 : D} : wAt [d0, d1, d2, d3, d4, d5] 3 S Q = Q d3 S := wAt_some rfl
theorem x6_4 {d0 d1 d2 d3 d4 d5 : D} : wAt [d0, d1, d2, d3, d4, d5] 4 S Q = Q d4 S := wAt_some rfl
theorem x6_5 {d0 d1 d2 d3 d4 d5 : D} : wAt [d0, d1, d2, d3, d4, d5] 5 S Q = Q d5 S := wAt_some rfl
theorem x6_m1 {d0 d1 d2 d3 d4 d5 : D} : wAt [d0, d1, d2, d3, d4, d5] (-1) S Q = Q d5 S := wAt_some rfl
theorem at_6 {d0 d1 d2 d3 d4 d5 : D} (h0' : 0 ≤ k) (h1' : k < 6) (h0 : k = 0 → Q d0 S) (h1 : k = 1 → Q d1 S) (h2 : k = 2 → Q d2 S) (h3 : k = 3 → Q d3 S) (h4 : k = 4 → Q d4 S) (h5 : k = 5 → Q d5 S) : wAt [d0, d1, d2, d3, d4, d5] k S Q := by
  have e : k = (k.toNat : Int) := by omega
  unfold wAt
  rw [e]
  match q : k.toNat with
  | 0 => exact ⟨_, rfl, h0 (by omega)⟩
  | 1 => exact ⟨_, rfl, h1 (by omega)⟩
  | 2 => exact ⟨_, rfl, h2 (by omega)⟩
  | 3 => exact ⟨_, rfl, h3 (by omega)⟩
  | 4 => exact ⟨_, rfl, h4 (by omega)⟩
  | 5 => exact ⟨_, rfl, h5 (by omega)⟩
  | n + 6 => exfalso; omega
theorem x7_0 {d0 d1 d2 d3 d4 d5 d6 : D} : wAt [d0, d1, d2, d3, d4, d5, d6] 0 S Q = Q d0 S := wAt_some rfl
theorem x7_1 {d0 d1 d2 d3 d4 d5 d6 : D} : wAt [d0, d1, d2, d3, d4, d5, d6] 1 S Q = Q d1 S := wAt_some rfl
theorem x7_2 {d0 d1 d2 d3 d4 d5 d6 : D} : wAt [d0, d1, d2, d3, d4, d5, d6] 2 S Q = Q d2 S := wAt_some rfl
theorem x7_3 {d0 d1 d2 d3 d4 d5 d6 : D} : wAt [d0, d1, d2, d3, d4, d5, d6] 3 S Q = Q d3 S := wAt_some rfl
theorem x7_4 {d0 d1 d2 d3 d4 d5 d6 : D} : wAt [d0, d1, d2, d3, d4, d5, d6] 4 S Q = Q d4 S := wAt_some rfl
theorem x7_5 {d0 d1 d2 d3 d4 d5 d6 : D} : wAt [d0, d1, d2, d3, d4, d5, d6] 5 S Q = Q d5 S := wAt_some rfl
theorem x7_6 {d0 d1 d2 d3 d4 d5 d6 : D} : wAt [d0, d1, d2, d3, d4, d5, d6] 6 S Q = Q d6 S := wAt_some rfl
theorem x7_m1 {d0 d1 d2 d3 d4 d5 d6 : D} : wAt [d0, d1, d2, d3, d4, d5, d6] (-1) S Q = Q d6 S := wAt_some rfl
theorem at_7 {d0 d1 d2 d3 d4 d5 d6 : D} (h0' : 0 ≤ k) (h1' : k < 7) (h0 : k = 0 → Q d0 S) (h1 : k = 1 → Q d1 S) (h2 : k = 2 → Q d2 S) (h3 : k = 3 → Q d3 S) (h4 : k = 4 → Q d4 S) (h5 : k = 5 → Q d5 S) (h6 : k = 6 → Q d6 S) : wAt [d0, d1, d2, d3, d4, d5, d6] k S Q := by
  have e : k = (k.toNat : Int) := by omega
  unfold wAt
  rw [e]
  match q : k.toNat with
  | 0 => exact ⟨_, rfl, h0 (by omega)⟩
  | 1 => exact ⟨_, rfl, h1 (by omega)⟩
  | 2 => exact ⟨_, rfl, h2 (by omega)⟩
  | 3 => exact ⟨_, rfl, h3 (by omega)⟩
  | 4 => exact ⟨_, rfl, h4 (by omega)⟩
  | 5 => exact ⟨_, rfl, h5 (by omega)⟩
  | 6 => exact ⟨_, rfl, h6 (by omega)⟩
  | n + 7 => exfalso; omega
theorem x8_0 {d0 d1 d2 d3 d4 d5 d6 d7 : D} : wAt [d0, d1, d2, d3, d4, d5, d6, d7] 0 S Q = Q d0 S := wAt_some rfl
theorem x8_1 {d0 d1 d2 d3 d4 d5 d6 d7 : D} : wAt [d0, d1, d2, d3, d4, d5, d6, d7] 1 S Q = Q d1 S := wAt_some rfl
theorem x8_2 {d0 d1 d2 d3 d4 d5 d6 d7 : D} : wAt [d0, d1, d2, d3, d4, d5, d6, d7] 2 S Q = Q d2 S := wAt_some rfl
theorem x8_3 {d0 d1 d2 d3 d4 d5 d6 d7 : D} : wAt [d0, d1, d2, d3, d4, d5, d6, d7] 3 S Q = Q d3 S := wAt_some rfl
theorem x8_4 {d0 d1 d2 d3 d4 d5 d6 d7 : D} : wAt [d0, d1, d2, d3, d4, d5, d6, d7] 4 S Q = Q d4 S := wAt_some rfl
theorem x8_5 {d0 d1 d2 d3 d4 d5 d6 d7 : D} : wAt [d0, d1, d2, d3, d4, d5, d6, d7] 5 S Q = Q d5 S := wAt_some rfl
theorem x8_6 {d0 d1 d2 d3 d4 d5 d6 d7 : D} : wAt [d0, d1, d2, d3, d4, d5, d6, d7] 6 S Q = Q d6 S := wAt_some rfl
theorem x8_7 {d0 d1 d2 d3 d4 d5 d6 d7 : D} : wAt [d0, d1, d2, d3, d4, d5, d6, d7] 7 S Q = Q d7 S := wAt_some rfl
theorem x8_m1 {d0 d1 d2 d3 d4 d5 d6 d7 : D} : wAt [d0, d1, d2, d3, d4, d5, d6, d7] (-1) S Q = Q d7 S := wAt_some rfl
theorem at_8 {d0 d1 d2 d3 d4 d5 d6 d7 : D} (h0' : 0 ≤ k) (h1' : k < 8) (h0 : k = 0 → Q d0 S) (h1 : k = 1 → Q d1 S) (h2 : k = 2 → Q d2 S) (h3 : k = 3 → Q d3 S) (h4 : k = 4 → Q d4 S) (h5 : k = 5 → Q d5 S) (h6 : k = 6 → Q d6 S) (h7 : k = 7 → Q d7 S) : wAt [d0, d1, d2, d3, d4, d5, d6, d7] k S Q := by
  have e : k = (k.toNat : Int) := by omega
  unfold wAt
  rw [e]
  match q : k.toNat with
  | 0 => exact ⟨_, rfl, h0 (by omega)⟩
  | 1 => exact ⟨_, rfl, h1 (by omega)⟩
  | 2 => exact ⟨_, rfl, h2 (by omega)⟩
  | 3 => exact ⟨_, rfl, h3 (by omega)⟩
  | 4 => exact ⟨_, rfl, h4 (by omega)⟩
  | 5 => exact ⟨_, rfl, h5 (by omega)⟩
  | 6 => exact ⟨_, rfl, h6 (by omega)⟩
  | 7 => exact ⟨_, rfl, h7 (by omega)⟩
  | n + 8 => exfalso; omega
theorem c_abs : dAbs [.int i] S = some (.int (if i < 0 then -i else i)) := nrfl rfl
theorem c_max2 : dMax2 [.int i, .int j] S = some (.int (if j > i then j else i)) := nrfl rfl
theorem c_min2 : dMin2 [.int i, .int j] S = some (.int (if j < i then j else i)) := nrfl rfl
theorem c_int : dInt [.int i] S = some (.int i) := nrfl rfl
theorem c_intb {b : Bool} : dInt [.bl b] S = some (.int (if b then 1 else 0)) := nrfl rfl
theorem c_lenS : dLen [.str x] S = some (.int x.length) := nrfl rfl
theorem c_lenT : dLen [.tup l] S = some (.int l.length) := nrfl rfl
theorem c_lenL : dLen [.lst l] S = some (.int l.length) := nrfl rfl
theorem c_listT : dListOf [.tup l] S = some l := nrfl rfl
theorem c_listL : dListOf [.lst l] S = some l := nrfl rfl
theorem c_tupT : dTupleOf [.tup l] S = some (.tup l) := nrfl rfl
theorem c_tupL : dTupleOf [.lst l] S = some (.tup l) := nrfl rfl
theorem c_sum {γ : Type} {f : γ → Int} {l : List γ} : dSum [.lst (l.map fun x => D.int (f x))] S = some (.int (l.map f).sum) := by
  have e : (l.map fun x => D.int (f x)) = (l.map f).map .int := by rw [List.map_map]; rfl
  rw [e]
  exact sum_ints _
theorem c_sum0 : dSum [.lst []] S = some (.int 0) := nrfl rfl
theorem blsM {γ : Type} {f : γ → Bool} {l : List γ} : (listOf [.lst (l.map fun x => D.bl (f x))] S).bind bls? = some (l.map f) := by
  have e : (l.map fun x => D.bl (f x)) = (l.map f).map .bl := by rw [List.map_map]; rfl
  rw [e]
  exact bls?_map _
theorem c_all {γ : Type} {f : γ → Bool} {l : List γ} : dAll [.lst (l.map fun x => D.bl (f x))] S = some (.bl (l.all f)) := by
  unfold dAll
  rw [blsM]
  show some (D.bl ((l.map f).all id)) = _
  rw [List.all_map]
  rfl
theorem c_any {γ : Type} {f : γ → Bool} {l : List γ} : dAny [.lst (l.map fun x => D.bl (f x))] S = some (.bl (l.any f)) := by
  unfold dAny
  rw [blsM]
  show some (D.bl ((l.map f).any id)) = _
  rw [List.any_map]
  rfl
theorem c_minP {p : Int × Int} : dMinL [encP p] S = some (.int (if p.2 < p.1 then p.2 else p.1)) := by
  show some (D.int (if decide (p.2 < p.1) = true then p.2 else p.1)) = _
  simp
theorem c_maxP {p : Int × Int} : dMaxL [encP p] S = some (.int (if p.2 > p.1 then p.2 else p.1)) := by
  show some (D.int (if decide (p.1 < p.2) = true then p.2 else p.1)) = _
  simp
theorem c_sortP {ps : List (Int × Int)} : sortD [.lst (ps.map encP)] S = some ((sortP ps).map encP) := sortD_ps ps
theorem c_zip : zipA [.lst l, .lst m] = some (pairsD l m) := nrfl rfl
theorem c_enum : enumA [.lst l] = some (enumD l) := nrfl rfl
theorem c_range1 : range1 [.int i] = rangeD 0 i := nrfl rfl
theorem c_range2 : range2 [.int i, .int j] = rangeD i j := nrfl rfl
theorem g_lst : itemsD (.lst l) = some l := nrfl rfl
theorem g_tup : itemsD (.tup l) = some l := nrfl rfl
theorem g_str : itemsD (.str x) = some (signsD x) := nrfl rfl
theorem p_int : partD (.int i) = some (some i) := nrfl rfl
theorem sq_lst : seqL S (.lst l) = some l := nrfl rfl
theorem sl_lst {lo hi : Option Int} : slD (.lst l) lo hi S = some (.lst (cutD l lo hi)) := nrfl rfl
theorem sl_tup {lo hi : Option Int} : slD (.tup l) lo hi S = some (.tup (cutD l lo hi)) := nrfl rfl
theorem sl_str {lo hi : Option Int} : slD (.str x) lo hi S = some (.str (cutS x lo hi)) := nrfl rfl
theorem slL_lst {lo hi : Option Int} : slL (.lst l) lo hi S = some (cutD l lo hi) := nrfl rfl
theorem om_some {β γ : Type} {f : β → γ} {a : β} : (some a).map f = some (f a) := nrfl rfl
theorem range_sm {i : Int} (h0 : 0 ≤ i) (h : i ≤ sizeLine) : rangeD 0 i = some ((List.range i.toNat).map fun k => D.int (k : Nat)) := by
  unfold rangeD
  have hz : sizeLine = 16777216 := by decide
  rw [if_pos ⟨⟨by omega, by omega, by omega, by omega⟩, by omega⟩]
  simp
/-! cells -/
def atL (S : Cells) (n : Nat) (P : List D → Prop) : Prop := ∃ l, S[n]? = some ⟨true, .lst l⟩ ∧ P l
theorem atL_of {n : Nat} {P : List D → Prop} (h : S[n]? = some ⟨true, .lst l⟩) : atL S n P = P l := propext ⟨fun ⟨_, e, q⟩ => by rw [h] at e; cases e; exact q, fun q => ⟨l, h, q⟩⟩
theorem atL_new {n : Nat} {P : List D → Prop} {R : Cells} (h : S.length = n) : atL (S ++ ⟨true, .lst l⟩ :: R) n P = P l := atL_of (by rw [← h]; simp)
theorem atL_new1 {n : Nat} {c : Cell} {P : List D → Prop} {R : Cells} (h : S.length = n) : atL (S ++ c :: ⟨true, .lst l⟩ :: R) (n + 1) P = P l := atL_of (by rw [← h]; simp)
theorem atL_new2 {n : Nat} {c c' : Cell} {P : List D → Prop} {R : Cells} (h : S.length = n) : atL (S ++ c :: c' :: ⟨true, .lst l⟩ :: R) (n + 2) P = P l := atL_of (by rw [← h]; simp)
theorem atL_old {n : Nat} {P : List D → Prop} {R : Cells} (h : n < S.length) : atL (S ++ R) n P = atL S n P := by
  unfold atL
  rw [List.getElem?_append_left h]
theorem set_new {n : Nat} {c c' : Cell} {R : Cells} (h : S.length = n) : (S ++ c :: R).set n c' = S ++ c' :: R := by
  rw [← h, List.set_append_right _ _ (Nat.le_refl _), Nat.sub_self]
  rfl
theorem set_new1 {n : Nat} {c c0 c' : Cell} {R : Cells} (h : S.length = n) : (S ++ c0 :: c :: R).set (n + 1) c' = S ++ c0 :: c' :: R := by
  rw [← h, List.set_append_right _ _ (Nat.le_succ _)]
  simp
theorem set_new2 {n : Nat} {c c0 c1 c' : Cell} {R : Cells} (h : S.length = n) : (S ++ c0 :: c1 :: c :: R).set (n + 2) c' = S ++ c0 :: c1 :: c' :: R := by
  rw [← h, List.set_append_right _ _ (by omega)]
  simp
theorem set_old {n : Nat} {c' : Cell} {R : Cells} (h : n < S.length) : (S ++ R).set n c' = S.set n c' ++ R := List.set_append_left _ _ h
theorem take_app {n : Nat} {R : Cells} (h : S.length = n) : (S ++ R).take n = S := by rw [← h, List.take_left']; rfl
theorem app_app {A B C : Cells} : (A ++ B) ++ C = A ++ (B ++ C) := List.append_assoc _ _ _
theorem cons_app {c : Cell} {B C : Cells} : (c :: B) ++ C = c :: (B ++ C) := nrfl rfl
theorem nil_app {C : Cells} : [] ++ C = C := nrfl rfl
theorem len_app1 {c : Cell} : (S ++ [c]).length = S.length + 1 := by simp
theorem len_app2 {c c1 : Cell} : (S ++ [c, c1]).length = S.length + 2 := by simp
theorem len_app3 {c c1 c2 : Cell} : (S ++ [c, c1, c2]).length = S.length + 3 := by simp
theorem len_set {n : Nat} {c : Cell} : (S.set n c).length = S.length := List.length_set
theorem m_tyL : isTy "list" (.lst l) S = some () := by
  show (if "list" = "list" ∧ (seqL S (.lst l)).isSome = true then some () else none) = _
  exact if_pos ⟨rfl, rfl⟩
theorem m_tyS : isTy "str" (.str x) S = some () := by
  show (if "str" = "str" then some () else none) = _
  exact if_pos rfl
theorem m_ty {n : Nat} {QU : Unit → Cells → Prop} : wpo (isTy "list" (.ref n) S) S' QU = (∃ l, seqL S (.ref n) = some l ∧ QU () S') := by
  unfold isTy
  simp only
  cases e : seqL S (.ref n) with
  | none =>
    rw [if_neg (by simp)]
    exact propext ⟨fun q => q.elim, fun ⟨_, z, _⟩ => nomatch z⟩
  | some l =>
    rw [if_pos (by simp)]
    exact propext ⟨fun q => ⟨l, rfl, q⟩, fun ⟨_, _, q⟩ => q⟩
theorem liveL_at {n : Nat} : liveL (.ref n) S = match S[n]? with
  | some ⟨true, .lst l⟩ => some (n, l)
  | _ => none := rfl
/-- o.append(x) -/
theorem m_app {n : Nat} : wpc (mAppend (.ref n) [d] S) Q = atL S n fun l => d.flat = true ∧ l.length < sizeLine ∧ Q .non (S.set n ⟨true, .lst (l ++ [d])⟩) := by
  unfold mAppend atL
  rw [liveL_at]
  split
  · rename_i x m l e1 e2
    cases e1
    split at e2
    · rename_i l' e3
      cases e2
      by_cases h : d.flat = true ∧ l.length < sizeLine
      · rw [if_pos h]
        exact propext ⟨fun q => ⟨l, e3, h.1, h.2, q⟩, fun ⟨l2, e4, _, _, q⟩ => by rw [e3] at e4; cases e4; exact q⟩
      · rw [if_neg h]
        exact propext ⟨fun q => q.elim, fun ⟨l2, e4, q1, q2, _⟩ => by rw [e3] at e4; cases e4; exact absurd ⟨q1, q2⟩ h⟩
    · cases e2
  · rename_i hn
    refine propext ⟨fun q => q.elim, fun ⟨l, e, _⟩ => ?_⟩
    exact (hn d n l rfl (by rw [e])).elim
theorem w_appM {n : Nat} {x : M (List D)} : wp (mthE "list" mAppend (kon (.ref n)) x S) Q E = wp (mthE "list" mAppend (kon (.ref n)) x S) Q E := nrfl rfl
theorem seq_at {n : Nat} {b : Bool} (h : S[n]? = some ⟨b, .lst l⟩) : seqL S (.ref n) = some l := seqL_ref h
theorem seq_new {n : Nat} {b : Bool} {R : Cells} (h : S.length = n) : seqL (S ++ ⟨b, .lst l⟩ :: R) (.ref n) = some l := seqL_ref (b := b) (by rw [← h]; simp)
theorem seq_new1 {n : Nat} {b : Bool} {c : Cell} {R : Cells} (h : S.length = n) : seqL (S ++ c :: ⟨b, .lst l⟩ :: R) (.ref (n + 1)) = some l := seqL_ref (b := b) (by rw [← h]; simp)
theorem seq_new2 {n : Nat} {b : Bool} {c c' : Cell} {R : Cells} (h : S.length = n) : seqL (S ++ c :: c' :: ⟨b, .lst l⟩ :: R) (.ref (n + 2)) = some l := seqL_ref (b := b) (by rw [← h]; simp)
theorem seq_old {n : Nat} {R : Cells} (h : n < S.length) : seqL (S ++ R) (.ref n) = seqL S (.ref n) := by
  unfold seqL
  simp only
  rw [List.getElem?_append_left h]
theorem ex_some {β : Type} {a : β} {P : β → Prop} : (∃ m, some a = some m ∧ P m) = P a := propext ⟨fun ⟨_, e, q⟩ => by cases e; exact q, fun q => ⟨a, rfl, q⟩⟩
theorem x_ref {n : Nat} : wpo (ixD (.ref n) (.int k) S) S' Q = wpo (seqL S (.ref n)) S' fun l S' => wAt l k S' Q := by
  show wpo ((seqL S (.ref n)).bind fun l => atI l k) S' Q = _
  cases seqL S (.ref n) with
  | none => rfl
  | some l => exact wAt_of
theorem c_lenR {n : Nat} : dLen [.ref n] S = (seqL S (.ref n)).map fun l => .int l.length := nrfl rfl
theorem c_listR {n : Nat} : dListOf [.ref n] S = seqL S (.ref n) := nrfl rfl
theorem c_tupR {n : Nat} : dTupleOf [.ref n] S = (seqL S (.ref n)).map fun l => D.tup l := nrfl rfl
theorem sl_ref {n : Nat} {lo hi : Option Int} : slD (.ref n) lo hi S = (seqL S (.ref n)).map fun l => .lst (cutD l lo hi) := by
  show (slL (.ref n) lo hi S).map D.lst = _
  unfold slL
  cases seqL S (.ref n) <;> rfl
/-- o[k] = y -/
theorem m_sto {n : Nat} {y : D} : wSto (setAtD (.ref n) (.int k) y S) ρ N = atL S n fun l => ∃ j, ixN l.length k = some j ∧ y.flat = true ∧ N ρ (S.set n ⟨true, .lst (l.set j y)⟩) := by
  unfold setAtD atL
  rw [liveL_at]
  cases e : S[n]? with
  | none => exact propext ⟨fun q => q.elim, fun ⟨_, z, _⟩ => nomatch z⟩
  | some c =>
    obtain ⟨b, c⟩ := c
    cases c with
    | ins k fs => exact propext ⟨fun q => by cases b <;> exact q.elim, fun ⟨_, z, _⟩ => by cases z⟩
    | lst l =>
      cases b with
      | false => exact propext ⟨fun q => q.elim, fun ⟨_, z, _⟩ => by cases z⟩
      | true =>
        show wSto (match ixN l.length k with
          | some j => if y.flat = true then some (S.set n ⟨true, .lst (l.set j y)⟩) else none
          | none => none) ρ N = _
        cases ex : ixN l.length k with
        | none => exact propext ⟨fun q => q.elim, fun ⟨l2, z, j, ez, _⟩ => by cases z; rw [ex] at ez; cases ez⟩
        | some j =>
          by_cases h : y.flat = true
          · simp only [if_pos h]
            exact propext ⟨fun q => ⟨l, rfl, j, ex, h, q⟩, fun ⟨l2, z, j2, ez, _, q⟩ => by cases z; rw [ex] at ez; cases ez; exact q⟩
          · simp only [if_neg h]
            exact propext ⟨fun q => q.elim, fun ⟨l2, z, j2, ez, q, _⟩ => absurd q h⟩
/-- a list that is read from now on -/
theorem m_fzL : wp (fzM (.lst l) S) Q E = Q (.lst l) S := nrfl rfl
theorem m_fzI : wp (fzM (.int i) S) Q E = Q (.int i) S := nrfl rfl
theorem m_fzT : wp (fzM (.tup l) S) Q E = Q (.tup l) S := nrfl rfl
theorem m_fz {n : Nat} : wp (fzM (.ref n) S) Q E = wpo (seqL S (.ref n)) S fun l S => Q (.lst l) (S.set n ⟨false, .lst l⟩) := by
  unfold fzM M.chg seqL
  simp only
  cases e : S[n]? with
  | none => rfl
  | some c =>
    obtain ⟨b, c⟩ := c
    cases c <;> rfl
theorem fl_non : (D.non).flat = true := by simp
theorem fl_int : (D.int i).flat = true := by simp
theorem fl_bl {b : Bool} : (D.bl b).flat = true := by simp
theorem fl_str : (D.str x).flat = true := by simp
theorem fl_tup : (D.tup l).flat = flatL l := flat_tup l
theorem fl_lst : (D.lst l).flat = flatL l := flat_lst l
theorem fl_obj {n : Nat} : (D.obj n l).flat = flatL l := flat_obj n l
theorem fl_nil : flatL [] = true := nrfl rfl
theorem fl_cons : flatL (d :: l) = (d.flat && flatL l) := nrfl rfl
theorem fl_app : flatL (l ++ m) = (flatL l && flatL m) := by unfold flatL; exact List.all_append
theorem fl_encP {p : Int × Int} : (encP p).flat = true := flat_encP p
theorem fl_map {γ : Type} {f : γ → D} {l : List γ} (h : ∀ a ∈ l, (f a).flat = true) : flatL (l.map f) = true := by
  unfold flatL
  rw [List.all_map, List.all_eq_true]
  exact h
end
/-! loops -/
section
variable {γ σ : Type} {S : Cells} {ρ : En} {N : En → Cells → Prop} {Rt : D → Cells → Prop} {E : Xc → En → Cells → Prop} {p : Pat} {B : SM}
theorem w_forNil : wo (forD p B [] ρ S) N Rt E = N ρ S := nrfl rfl
theorem wo_step {k : SM} {o : Out} : wo (stepD k o) N Rt E = wo o (fun ρ S => wo (k ρ S) N Rt E) Rt E ∨ (∃ ρ S, o = .bk ρ S) ∨ ∃ ρ S, o = .ct ρ S := by
  cases o with
  | bk ρ S => exact .inr (.inl ⟨ρ, S, rfl⟩)
  | ct ρ S => exact .inr (.inr ⟨ρ, S, rfl⟩)
  | _ => exact .inl rfl
theorem w_forCons {d : D} {ds : List D} (h : wAsg p ρ (fun ρ1 S1 => wo (B ρ1 S1) (fun ρ2 S2 => wo (forD p B ds ρ2 S2) N Rt E) Rt E) d S) : wo (forD p B (d :: ds) ρ S) N Rt E := by
  rw [forD_cons]
  unfold wAsg at h
  cases e : p.put d ρ with
  | none => rw [e] at h; exact h.elim
  | some ρ1 =>
    rw [e] at h
    have h : wo (B ρ1 S) (fun ρ2 S2 => wo (forD p B ds ρ2 S2) N Rt E) Rt E := h
    show wo (stepD (forD p B ds) (B ρ1 S)) N Rt E
    cases eb : B ρ1 S with
    | bk ρ S => rw [eb] at h; exact h.elim
    | ct ρ S => rw [eb] at h; exact h.elim
    | stuck => rw [eb] at h; exact h.elim
    | _ => rw [eb] at h; exact h
/-- a loop by an invariant over the items that are left -/
theorem for_wp (enc : γ → D) (I : List γ → En → Cells → Prop) (hs : ∀ a r ρ S, I (a :: r) ρ S → wAsg p ρ (fun ρ1 S1 => wo (B ρ1 S1) (I r) Rt E) (enc a) S) (he : ∀ ρ S, I [] ρ S → N ρ S) : ∀ (l : List γ) (ρ : En) (S : Cells), I l ρ S → wo (forD p B (l.map enc) ρ S) N Rt E
  | [], ρ, S, h => he ρ S h
  | a :: l, ρ, S, h => by
    refine w_forCons ?_
    have q := hs a l ρ S h
    unfold wAsg at q ⊢
    cases e : p.put (enc a) ρ with
    | none => rw [e] at q; exact q.elim
    | some ρ1 =>
      rw [e] at q
      exact wo_mono q (fun ρ2 S2 z => for_wp enc I hs he l ρ2 S2 z) (fun _ _ z => z) (fun _ _ _ z => z)
/-- .. by a state of one's own -/
theorem for_st (enc : γ → D) (e : σ → En) (c : σ → Cells) (P : σ → List γ → Prop) (l : List γ) (s0 : σ) (h0 : P s0 l) (hs : ∀ s a r, P s (a :: r) → wAsg p (e s) (fun ρ1 S1 => wo (B ρ1 S1) (fun ρ2 S2 => ∃ s', ρ2 = e s' ∧ S2 = c s' ∧ P s' r) Rt E) (enc a) (c s)) (he : ∀ s, P s [] → N (e s) (c s))
    (hρ : ρ = e s0 := by rfl) (hS : S = c s0 := by rfl) : wo (forD p B (l.map enc) ρ S) N Rt E := by
  subst hρ
  subst hS
  refine for_wp enc (fun r ρ S => ∃ s, ρ = e s ∧ S = c s ∧ P s r) (fun a r ρ S ⟨s, e1, e2, h⟩ => ?_) (fun ρ S ⟨s, e1, e2, h⟩ => ?_) l _ _ ⟨s0, rfl, rfl, h0⟩
  · subst e1
    subst e2
    exact hs s a r h
  · subst e1
    subst e2
    exact he s h
theorem while_st {tc : En → M Bool} (e : σ → En) (c : σ → Cells) (P : σ → Prop) (μ : σ → Nat)
    (hs : ∀ s, P s → wp (tc (e s) (c s)) (fun b S1 => wif b (wo (B (e s) S1) (fun ρ2 S2 => ∃ s', ρ2 = e s' ∧ S2 = c s' ∧ P s' ∧ μ s' < μ s) Rt E) (N (e s) S1)) (fun x S => E x (e s) S)) : ∀ (n : Nat) (s : σ), P s → μ s < n → wo (whileW tc B (e s) (c s)) N Rt E := by
  have key : ∀ (n : Nat) (s : σ), P s → μ s < n → wo (whileD tc B n (e s) (c s)) N Rt E := by
    intro n
    induction n with
    | zero => intro s _ h; omega
    | succ n ih =>
      intro s hp hm
      have q := hs s hp
      show wo (tstM (tc (e s) (c s)) (e s) fun S1 => stepD (whileD tc B n) (B (e s) S1)) N Rt E
      cases et : tc (e s) (c s) with
      | ok b S1 =>
        rw [et] at q
        have q : wif b _ _ := q
        cases b with
        | false => exact q.2 rfl
        | true =>
          have q := q.1 rfl
          show wo (stepD (whileD tc B n) (B (e s) S1)) N Rt E
          cases eb : B (e s) S1 with
          | nx ρ2 S2 =>
            rw [eb] at q
            obtain ⟨s', rfl, rfl, hp', hm'⟩ := q
            exact ih s' hp' (by omega)
          | rt d S2 => rw [eb] at q; exact q
          | er x ρ S2 => rw [eb] at q; exact q
          | bk _ _ => rw [eb] at q; exact q.elim
          | ct _ _ => rw [eb] at q; exact q.elim
          | stuck => rw [eb] at q; exact q.elim
      | err x S1 => rw [et] at q; exact q
      | stuck => rw [et] at q; exact q.elim
  intro n s hp hm
  have k := key n s hp hm
  have hne : whileD tc B n (e s) (c s) ≠ .stuck := fun z => by rw [z] at k; exact k.elim
  rw [whileW_of rfl hne]
  exact k
theorem w_while {tc : En → M Bool} (e : σ → En) (c : σ → Cells) (P : σ → Prop) (μ : σ → Nat) (s0 : σ) (h0 : P s0)
    (hs : ∀ s, P s → wp (tc (e s) (c s)) (fun b S1 => wif b (wo (B (e s) S1) (fun ρ2 S2 => ∃ s', ρ2 = e s' ∧ S2 = c s' ∧ P s' ∧ μ s' < μ s) Rt E) (N (e s) S1)) (fun x S => E x (e s) S)) (hρ : ρ = e s0 := by rfl) (hS : S = c s0 := by rfl) : wo (whileW tc B ρ S) N Rt E := by
  subst hρ
  subst hS
  exact while_st e c P μ hs _ s0 h0 (Nat.lt_succ_self _)
end
/-! comprehensions -/
section
variable {γ σ : Type} {S : Cells} {ρ : En} {E : Xc → Cells → Prop} {p : Pat} {ft : En → M Bool} {fe : En → M D}
theorem w_compNil {QL : List D → Cells → Prop} : wp (compD p ft fe ρ [] S) QL E = QL [] S := nrfl rfl
theorem w_yes {QB : Bool → Cells → Prop} : wp (yesM S) QB E = QB true S := nrfl rfl
def cStep (p : Pat) (ft : En → M Bool) (fe : En → M D) (ρ : En) (d : D) (S : Cells) (K : Option D → Cells → Prop) : Prop :=
  wAsg p ρ (fun ρ1 S1 => wp (ft ρ1 S1) (fun b S2 => wif b (wp (fe ρ1 S2) (fun y S3 => K (some y) S3) noE) (K none S2)) noE) d S
theorem cStep_mono {d : D} {K K' : Option D → Cells → Prop} (h : cStep p ft fe ρ d S K) (i : ∀ o S, K o S → K' o S) : cStep p ft fe ρ d S K' := by
  unfold cStep wAsg at *
  cases e : p.put d ρ with
  | none => rw [e] at h; exact h
  | some ρ1 =>
    rw [e] at h
    refine wp_mono h (fun b S2 q => ⟨fun hb => wp_mono (q.1 hb) (fun y S3 z => i _ _ z) (fun _ _ z => z), fun hb => i _ _ (q.2 hb)⟩) (fun _ _ z => z)
theorem w_compCons {QL : List D → Cells → Prop} {d : D} {ds : List D} (h : cStep p ft fe ρ d S fun o S1 => wp (compD p ft fe ρ ds S1) (fun l S2 => QL (match o with
    | some y => y :: l
    | none => l) S2) E) : wp (compD p ft fe ρ (d :: ds) S) QL E := by
  unfold compD
  unfold cStep wAsg at h
  cases e : p.put d ρ with
  | none => rw [e] at h; exact h.elim
  | some ρ1 =>
    rw [e] at h
    show wp (M.bind (calmM (ft ρ1)) _ S) QL E
    rw [w_bind, w_calm]
    have h : wp (ft ρ1 S) _ noE := h
    refine wp_mono h (fun b S2 q => ?_) (fun _ _ z => z)
    cases b with
    | true =>
      have q := q.1 rfl
      show wp (M.bind (calmM (fe ρ1)) _ S2) QL E
      rw [w_bind, w_calm]
      refine wp_mono q (fun y S3 z => ?_) (fun _ _ z => z)
      show wp (M.bind (compD p ft fe ρ ds) _ S3) QL E
      rw [w_bind]
      exact z
    | false => exact q.2 rfl
theorem comp_wp {QL : List D → Cells → Prop} (enc : γ → D) (f : γ → Option D) (l : List γ) (h : ∀ a ∈ l, cStep p ft fe ρ (enc a) S fun o S1 => o = f a ∧ S1 = S) (q : QL (l.filterMap f) S) : wp (compD p ft fe ρ (l.map enc) S) QL E := by
  have e : compD p ft fe ρ (l.map enc) S = .ok (l.filterMap f) S := by
    clear q
    induction l with
    | nil => rfl
    | cons a l ih =>
      refine wp_ok ?_
      rw [List.map_cons]
      refine w_compCons (cStep_mono (h a List.mem_cons_self) fun o S1 ⟨e1, e2⟩ => ?_)
      subst e2
      subst e1
      refine wp_of (ih fun b hb => h b (List.mem_cons_of_mem _ hb)) ⟨?_, rfl⟩
      rw [List.filterMap_cons]
      cases f a <;> rfl
  exact wp_of e q
theorem comp_map_wp {QL : List D → Cells → Prop} (enc : γ → D) (g : γ → D) (l : List γ) (h : ∀ a ∈ l, cStep p ft fe ρ (enc a) S fun o S1 => o = some (g a) ∧ S1 = S) (q : QL (l.map g) S) : wp (compD p ft fe ρ (l.map enc) S) QL E := by
  refine comp_wp enc (fun a => some (g a)) l h ?_
  have e : l.filterMap (fun a => some (g a)) = l.map g := by
    clear q h
    induction l with
    | nil => rfl
    | cons a l ih => rw [List.filterMap_cons, ih]; rfl
  rw [e]
  exact q
theorem comp_fil_wp {QL : List D → Cells → Prop} (enc : γ → D) (t : γ → Bool) (g : γ → D) (l : List γ) (h : ∀ a ∈ l, cStep p ft fe ρ (enc a) S fun o S1 => o = (if t a = true then some (g a) else none) ∧ S1 = S) (q : QL ((l.filter t).map g) S) : wp (compD p ft fe ρ (l.map enc) S) QL E := by
  refine comp_wp enc (fun a => if t a = true then some (g a) else none) l h ?_
  have e : l.filterMap (fun a => if t a = true then some (g a) else none) = (l.filter t).map g := by
    clear q h
    induction l with
    | nil => rfl
    | cons a l ih =>
      rw [List.filterMap_cons, List.filter_cons]
      cases t a
      · exact ih
      · show g a :: _ = g a :: _
        rw [ih]
  rw [e]
  exact q
/-- each item by a step that changes the store -/
theorem comp_st (enc : γ → D) (c : σ → Cells) (P : σ → List D → List γ → Prop) (hs : ∀ s acc a r, P s acc (a :: r) → cStep p ft fe ρ (enc a) (c s) fun o S1 => ∃ s', S1 = c s' ∧ P s' (acc ++ o.toList) r) 
    : ∀ (l : List γ) (s : σ) (acc : List D) (QL : List D → Cells → Prop), P s acc l → (∀ s' out, P s' (acc ++ out) [] → QL out (c s')) → wp (compD p ft fe ρ (l.map enc) (c s)) QL E
  | [], s, acc, QL, h, q => q s [] (by rw [List.append_nil]; exact h)
  | a :: l, s, acc, QL, h, q => by
    refine w_compCons (cStep_mono (hs s acc a l h) fun o S1 ⟨s', e1, h'⟩ => ?_)
    subst e1
    cases o with
    | none => exact comp_st enc c P hs l s' acc _ (by simpa using h') q
    | some y =>
      refine comp_st enc c P hs l s' (acc ++ [y]) (fun l S2 => QL (y :: l) S2) h' fun s2 out h2 => q s2 (y :: out) ?_
      rw [List.append_assoc] at h2
      exact h2
end
end DL
end
section
set_option maxHeartbeats 4000000
/-! DY: rules for instances. -/
namespace DL
open PySem PySem.Spec L2
open PyProof.Rows hiding St
theorem ilen_cons {α : Type} {x : α} {l : List α} : ((x :: l).length : Int) = (l.length : Int) + 1 := by simp
theorem ilen_nil {α : Type} : (([] : List α).length : Int) = 0 := nrfl rfl
theorem w_rangeN {n : Nat} {S : Cells} {QL : List D → Cells → Prop} (h : n ≤ sizeLine) : wpo (rangeD 0 (n : Int)) S QL = QL ((List.range n).map fun k : Nat => D.int k) S := by
  rw [range_sm (by omega) (by omega)]
  rfl
theorem w_rangeI {i : Int} {S : Cells} {QL : List D → Cells → Prop} (h0 : 0 ≤ i) (h : i ≤ sizeLine) : wpo (rangeD 0 i) S QL = QL ((List.range i.toNat).map fun k : Nat => D.int k) S := by
  rw [range_sm h0 h]
  rfl
theorem w_range2 {i j : Int} {S : Cells} {QL : List D → Cells → Prop} (h : 0 ≤ i ∧ i ≤ 1000000 ∧ 0 ≤ j ∧ j ≤ 1000000) : wpo (rangeD i j) S QL = QL ((List.range (j - i).toNat).map fun k : Nat => D.int (i + (k : Nat))) S := by
  have hz : sizeLine = 16777216 := by decide
  unfold rangeD
  rw [if_pos ⟨⟨by omega, by omega, by omega, by omega⟩, by omega⟩]
  rfl
theorem maxOf_facts : ∀ (xs : List Int) (x : Int), (maxI x xs ∈ x :: xs) ∧ ∀ y ∈ x :: xs, y ≤ maxI x xs := by
  intro xs
  induction xs with
  | nil => exact fun x => ⟨by simp [maxI, PySem.W.maxOf], fun y hy => by simp [maxI, PySem.W.maxOf] at hy ⊢; omega⟩
  | cons z xs ih =>
    intro x
    have e : maxI x (z :: xs) = maxI (if x < z then z else x) xs := by
      show PySem.W.maxOf x (z :: xs) = _
      unfold PySem.W.maxOf
      rw [List.foldl_cons]
      show List.foldl _ (if decide (x < z) = true then z else x) xs = _
      simp [maxI, PySem.W.maxOf]
    obtain ⟨h1, h2⟩ := ih (if x < z then z else x)
    rw [e]
    refine ⟨?_, fun y hy => ?_⟩
    · rcases List.mem_cons.mp h1 with h | h
      · rw [h]
        split <;> simp
      · exact List.mem_cons_of_mem _ (List.mem_cons_of_mem _ h)
    · have h3 := h2 _ List.mem_cons_self
      generalize maxI (if x < z then z else x) xs = m at *
      have h4 : x ≤ m ∧ z ≤ m := by
        by_cases hxz : x < z
        · rw [if_pos hxz] at h3
          omega
        · rw [if_neg hxz] at h3
          omega
      rcases List.mem_cons.mp hy with h | hy
      · rw [h]; exact h4.1
      · rcases List.mem_cons.mp hy with h | hy
        · rw [h]; exact h4.2
        · exact h2 y (List.mem_cons_of_mem _ hy)
theorem max_facts {ns : List Int} (h : ns ≠ []) : ∃ m, (∀ S, dMaxL [.lst (ns.map .int)] S = some (.int m)) ∧ m ∈ ns ∧ ∀ x ∈ ns, x ≤ m := by
  cases ns with
  | nil => exact absurd rfl h
  | cons x xs =>
    refine ⟨maxI x xs, fun S => ?_, maxOf_facts xs x⟩
    show (match (some ((x :: xs).map D.int)).bind ints? with
      | some (x :: xs) => some (D.int (maxI x xs))
      | _ => none) = _
    rw [show (some ((x :: xs).map D.int)).bind ints? = ints? ((x :: xs).map D.int) from rfl, ints?_map]
theorem wAt_map {γ : Type} {enc : γ → D} {l : List γ} {k : Int} {n : Nat} {a : γ} {S : Cells} {Q : D → Cells → Prop} (hk : k = (n : Nat)) (h : l[n]? = some a) : wAt (l.map enc) k S Q = Q (enc a) S := wAt_some (by rw [hk]; exact atI_nat (by rw [List.getElem?_map, h]; rfl))
theorem cut_1 {l : List D} : cutD l (some 1) none = l.drop 1 := cut1 l
theorem wretL_new {S R : Cells} {n : Nat} {l : List D} {Q : List D → Cells → Prop} (h : S.length = n) : wretL n (S ++ ⟨true, .lst l⟩ :: R) (.ref n) Q = Q l S := by
  have e : (S ++ ⟨true, .lst l⟩ :: R)[n]? = some ⟨true, .lst l⟩ := by rw [← h]; simp
  unfold wretL
  simp only
  refine propext ⟨fun ⟨_, l', e', q⟩ => ?_, fun q => ⟨Nat.le_refl _, l, e, ?_⟩⟩
  · rw [e] at e'
    cases e'
    rw [take_app h] at q
    exact q
  · rw [take_app h]
    exact q
theorem wret_new {S R : Cells} {n : Nat} {b : Bool} {l : List D} {Q : D → Cells → Prop} (h : S.length = n) : wret n (S ++ ⟨b, .lst l⟩ :: R) (.ref n) Q = Q (.lst l) S := by
  rw [wret_ref (b := b) (l := l) (Nat.le_refl _) (by rw [← h]; simp), take_app h]
theorem c_setSort {ns : List Int} {S S' : Cells} {QL : List D → Cells → Prop} : wpo (setSortD (.lst (ns.map .int)) S) S' QL = (ns.length < 4095 ∧ QL ((setSort ns).map .int) S') := by
  have e : setSortD (.lst (ns.map .int)) S = if ns.length + 1 < PySem.scanBound then some ((setSort ns).map .int) else none := by
    show (match (some (ns.map D.int)).bind ints? with
      | some ns => if ns.length + 1 < PySem.scanBound then some ((setSort ns).map D.int) else none
      | none => none) = _
    rw [show (some (ns.map D.int)).bind ints? = ints? (ns.map D.int) from rfl, ints?_map]
  rw [e, o_ite]
  have : PySem.scanBound = 4096 := rfl
  rw [this]
  exact propext ⟨fun ⟨a, b⟩ => ⟨by omega, b⟩, fun ⟨a, b⟩ => ⟨by omega, b⟩⟩
section
variable {α : Type} {S S' : Cells} {ρ : En} {Q : D → Cells → Prop} {QL : List D → Cells → Prop} {E : Xc → Cells → Prop} {N : En → Cells → Prop} {Rt : D → Cells → Prop} {EE : Xc → En → Cells → Prop}
  {NM : Nat → List Str} {cs : List Nat} {f m : Str} {c n : Nat} {g : List D → M D} {gL : List D → M (List D)} {o a b : M D} {x : M (List D)} {d e y : D} {l : List D}
theorem w_fld : wp (fldM NM cs f o S) Q E = wp (o S) (fun d S => wpo (fldD NM cs f d S) S Q) E := by
  unfold fldM
  simp only [wp, wpo, wo, U.w_bind, U.w_opt]
theorem w_mt : wp (mtE NM c m n g o x S) Q E = wp (o S) (fun d S => wpo (isC NM c m d S) S fun _ S => wp (x S) (fun l S => wp (arity n g (d :: l) S) Q noE) E) E := by
  unfold mtE
  simp only [wp, wpo, wo, U.w_bind, U.w_opt, U.w_calm]
theorem w_mtL : wp (mtL NM c m n gL o x S) QL E = wp (o S) (fun d S => wpo (isC NM c m d S) S fun _ S => wp (x S) (fun l S => wp (arity n gL (d :: l) S) QL noE) E) E := by
  unfold mtL
  simp only [wp, wpo, wo, U.w_bind, U.w_opt, U.w_calm]
theorem w_mt0 : wp (mt0E NM c m n g o S) Q E = wp (o S) (fun d S => wpo (isC NM c m d S) S fun _ S => wp (arity n g [d] S) Q noE) E := by
  unfold mt0E
  simp only [wp, wpo, wo, U.w_bind, U.w_opt, U.w_calm]
theorem w_mt0L : wp (mt0L NM c m n gL o S) QL E = wp (o S) (fun d S => wpo (isC NM c m d S) S fun _ S => wp (arity n gL [d] S) QL noE) E := by
  unfold mt0L
  simp only [wp, wpo, wo, U.w_bind, U.w_opt, U.w_calm]
theorem w_ic : wp (icE c n g o x S) Q E = wp (o S) (fun d S => wpo (isO c d S) S fun _ S => wp (x S) (fun l S => wp (arity n g (d :: l) S) Q noE) E) E := by
  unfold icE
  simp only [wp, wpo, wo, U.w_bind, U.w_opt, U.w_calm]
theorem isO_obj : isO c (.obj c l) S = some () := nrfl (if_pos rfl)
theorem w_make : wp (makeE NM c n g x S) Q E = wp (x S) (fun l S => wp (makeD NM c n g l S) Q E) E := by
  unfold makeE
  rw [w_bind]
theorem make_wp (hn : l.length + 1 = n) (h : wp (g (.ref S.length :: l) (S ++ [⟨true, .ins c []⟩])) (fun d S1 => d = .non ∧ ∃ b fs, S1[S.length]? = some ⟨b, .ins c fs⟩ ∧ fs.map (·.1) = NM c ∧ Q (.obj c (fs.map (·.2))) (S1.take S.length)) noE) : wp (makeD NM c n g l S) Q E := by
  unfold makeD
  rw [if_pos hn]
  cases eg : g (.ref S.length :: l) (S ++ [⟨true, .ins c []⟩]) with
  | err x S => rw [eg] at h; exact h.elim
  | stuck => rw [eg] at h; exact h.elim
  | ok d S1 =>
    rw [eg] at h
    obtain ⟨rfl, b, fs, e1, e2, q⟩ := h
    show wp (match S1[S.length]? with
      | some ⟨_, .ins c' fs⟩ => if c' = c ∧ fs.map (·.1) = NM c then .ok (.obj c (fs.map (·.2))) (S1.take S.length) else .stuck
      | _ => .stuck : R D) Q E
    rw [e1]
    simp only [e2, and_self, if_true]
    exact q
theorem w_b2M {op : D → D → M D} : wp (b2M op a b S) Q E = wp (a S) (fun x S => wp (b S) (fun y S => wp (op x y S) Q noE) E) E := by
  unfold b2M
  simp only [wp, wpo, wo, U.w_bind, U.w_calm]
theorem w_b2MT {op : D → D → M D} {QB : Bool → Cells → Prop} : wp (b2MT op a b S) QB E = wp (a S) (fun x S => wp (b S) (fun y S => wp (op x y S) (wB QB) noE) E) E := by
  unfold b2MT
  simp only [wp, wpo, wo, U.w_bind, U.w_calm, U.w_opt, U.w_asB]
theorem c_intU {i : Int} : dIntU [.int i] S = some (.int i) := nrfl rfl
theorem c_intbU {b : Bool} : dIntU [.bl b] S = some (.int (if b then 1 else 0)) := nrfl rfl
theorem c_intS {y : Str} : dIntU [.str y] S = if y.length ≤ 640 then (intText? y).map .int else none := nrfl rfl
theorem w_mthL {tn : String} {op : D → List D → Cells → Option (List D)} : wp (mthL_ tn op a x S) QL E = wp (a S) (fun d S => wpo (isTy tn d S) S fun _ S => wp (x S) (fun l S => wpo (op d l S) S QL) E) E := by
  unfold mthL_
  simp only [wp, wpo, wo, U.w_bind, U.w_opt]
theorem w_uM {op : D → M D} : wp (uM op a S) Q E = wp (a S) (fun x S => wp (op x S) Q noE) E := by
  unfold uM
  simp only [wp, wpo, wo, U.w_bind, U.w_calm]
theorem w_inv : wp (invOwn c g (.obj c l) S) Q E = wp (g [.obj c l] S) Q E := by
  unfold invOwn
  simp only [if_true]
theorem w_bin_obj {l' : List D} : wp (binOwn c g (.obj c l) (.obj c l') S) Q E = wp (g [.obj c l, .obj c l'] S) Q E := by
  show wp (if c = c then (if c = c then g [.obj c l, .obj c l'] S else .stuck) else .stuck) Q E = _
  rw [if_pos rfl, if_pos rfl]
theorem w_bin_int {i : Int} : wp (binOwn c g (.obj c l) (.int i) S) Q E = wp (g [.obj c l, .int i] S) Q E := by
  show wp (if c = c then g [.obj c l, .int i] S else .stuck) Q E = _
  rw [if_pos rfl]
theorem w_eq_of {r : DL.R D} (h : wp r (fun d S => ∃ k, d = .bl k ∧ Q (.bl k) S) noE) : wp (match r with
    | .ok (.bl b) S' => .ok (.bl b) S'
    | _ => .stuck : DL.R D) Q E := by
  cases r with
  | ok d S => obtain ⟨k, rfl, q⟩ := h; exact q
  | err x S => exact h.elim
  | stuck => exact h.elim
theorem w_eq_obj {l' : List D} (h : wp (g [.obj c l, .obj c l'] S) (fun d S => ∃ k, d = .bl k ∧ Q (.bl k) S) noE) : wp (eqOwn c g (.obj c l) (.obj c l') S) Q E := by
  unfold eqOwn
  simp only [if_true]
  cases eg : g [.obj c l, .obj c l'] S with
  | ok d S =>
    rw [eg] at h
    obtain ⟨k, rfl, q⟩ := h
    show wp (if c = c then R.ok (D.bl k) S else .stuck) Q E
    rw [if_pos rfl]
    exact q
  | err x S => rw [eg] at h; exact h.elim
  | stuck => rw [eg] at h; exact h.elim
theorem w_eq_plain (hp : ∃ t, tyName e = some t) (hr : ∀ n, e ≠ .ref n) (h : wp (g [.obj c l, e] S) (fun d S => ∃ k, d = .bl k ∧ Q (.bl k) S) noE) : wp (eqOwn c g (.obj c l) e S) Q E := by
  unfold eqOwn
  simp only [if_true]
  cases eg : g [.obj c l, e] S with
  | ok d S =>
    rw [eg] at h
    obtain ⟨k, rfl, q⟩ := h
    obtain ⟨t, et⟩ := hp
    cases e with
    | ref n => exact absurd rfl (hr n)
    | obj c l => cases et
    | _ => exact q
  | err x S => rw [eg] at h; exact h.elim
  | stuck => rw [eg] at h; exact h.elim
/-! self.f = e -/
theorem w_fldS {fv fo : En → M D} : wo (fldS cs f fv fo ρ S) N Rt EE = wp (fv ρ S) (fun y S => wp (fo ρ S) (fun d S => wSto (setFD cs f d y S) ρ N) (fun x S => EE x ρ S)) (fun x S => EE x ρ S) := by
  unfold fldS
  simp only [wp, wpo, wo, U.w_bS]
  congr 1
  funext y S
  congr 1
  funext d S
  cases setFD cs f d y S <;> rfl
def atI' (S : Cells) (n : Nat) (P : Nat → List (Str × D) → Prop) : Prop := ∃ c fs, S[n]? = some ⟨true, .ins c fs⟩ ∧ P c fs
theorem atI_new {n : Nat} {P : Nat → List (Str × D) → Prop} {fs : List (Str × D)} {R : Cells} (h : S.length = n) : atI' (S ++ ⟨true, .ins c fs⟩ :: R) n P = P c fs := by
  have e : (S ++ ⟨true, .ins c fs⟩ :: R)[n]? = some ⟨true, .ins c fs⟩ := by rw [← h]; simp
  exact propext ⟨fun ⟨_, _, e2, q⟩ => by rw [e] at e2; cases e2; exact q, fun q => ⟨c, fs, e, q⟩⟩
theorem m_fld : wSto (setFD cs f (.ref n) y S) ρ N = atI' S n fun c fs => (c ∈ cs ∧ y.flat = true ∧ fs.length < 1000) ∧ N ρ (S.set n ⟨true, .ins c (putD f y fs)⟩) := by
  unfold setFD atI'
  simp only
  cases e : S[n]? with
  | none => exact propext ⟨fun q => q.elim, fun ⟨_, _, z, _⟩ => nomatch z⟩
  | some ce =>
    obtain ⟨b, ce⟩ := ce
    cases ce with
    | lst l => exact propext ⟨fun q => by cases b <;> exact q.elim, fun ⟨_, _, z, _⟩ => by cases z⟩
    | ins c fs =>
      cases b with
      | false => exact propext ⟨fun q => q.elim, fun ⟨_, _, z, _⟩ => by cases z⟩
      | true =>
        show wSto (if c ∈ cs ∧ y.flat = true ∧ fs.length < 1000 then some (S.set n ⟨true, .ins c (putD f y fs)⟩) else none) ρ N = _
        by_cases h : c ∈ cs ∧ y.flat = true ∧ fs.length < 1000
        · rw [if_pos h]
          exact propext ⟨fun q => ⟨c, fs, rfl, h, q⟩, fun ⟨_, _, z, _, q⟩ => by cases z; exact q⟩
        · rw [if_neg h]
          exact propext ⟨fun q => q.elim, fun ⟨_, _, z, q, _⟩ => by cases z; exact absurd q h⟩
theorem w_repL {y : M D} : wp (repL_ x y S) QL E = wp (x S) (fun l S => wp (y S) (fun d S => wpo (repD l d) S QL) E) E := by
  unfold repL_
  simp only [wp, wpo, wo, U.w_bind, U.w_opt]
theorem w_isiC {tab : List (Nat × Bool)} : wp (isiCE tab o S) Q E = wp (o S) (fun d S => wpo (isiCD tab d S) S Q) E := by
  unfold isiCE
  simp only [wp, wpo, wo, U.w_bind, U.w_opt]
def wPar3 (i j k : Nat) (ρ : En) (N : En → Cells → Prop) (l : List D) (S : Cells) : Prop := match l with
  | [d, e, f] => N (((ρ.set i (some d)).set j (some e)).set k (some f)) S
  | _ => False
theorem wPar3_3 {i j k : Nat} {d e f : D} : wPar3 i j k ρ N [d, e, f] S = N (((ρ.set i (some d)).set j (some e)).set k (some f)) S := nrfl rfl
theorem w_par3 {i j k : Nat} {x : En → M (List D)} : wo (par3S i j k x ρ S) N Rt EE = wp (x ρ S) (wPar3 i j k ρ N) (fun x S => EE x ρ S) := by
  unfold par3S
  rw [w_bS]
  show U.wp _ _ _ = U.wp _ _ _
  congr 1
  funext l S
  unfold wPar3
  match l with
  | [] => rfl
  | [_] => rfl
  | [_, _] => rfl
  | [_, _, _] => rfl
  | _ :: _ :: _ :: _ :: _ => rfl
theorem m_count {k : Int} {ns : List Int} : wpc (mCount (.lst (ns.map .int)) [.int k] S) Q = Q (.int (ns.count k : Nat)) S := by
  show wpc ((((some (ns.map D.int)).bind ints?).map fun ns => (D.int (ns.count k : Nat), S))) Q = _
  rw [show ((some (ns.map D.int)).bind ints?) = ints? (ns.map D.int) from rfl, ints?_map]
  rfl
end
end DL
end
section
set_option maxHeartbeats 400000
/-! DYx: rules for texts, extend, divmod, x += y, own !=. -/
namespace DL
open PySem PySem.Spec L2
open PyProof.Rows hiding St
section
variable {α : Type} {S S' : Cells} {ρ : En} {Q : D → Cells → Prop} {QL : List D → Cells → Prop} {E : Xc → Cells → Prop} {d e : D} {i j : Int} {x y : Str} {l m : List D}
theorem o_addI : dAddI (.int i) (.int j) S = some (.int (i + j)) := nrfl rfl
theorem o_inS : dInU (.str x) (.str y) S = some (.bl (inS x y)) := nrfl rfl
theorem o_ninS : dNotInU (.str x) (.str y) S = some (.bl (!inS x y)) := nrfl rfl
theorem c_str : wpo (dStr [.int i] S) S' Q = (i.natAbs.log2 < 1920 ∧ Q (.str (toString i)) S') := by
  show wpo (if i.natAbs.log2 < 1920 then some (D.str (toString i)) else none) S' Q = _
  rw [o_ite]
theorem c_intSw : wpo (dIntU [.str x] S) S' Q = (x.length ≤ 640 ∧ ∃ n, intText? x = some n ∧ Q (.int n) S') := by
  show wpo (if x.length ≤ 640 then (intText? x).map D.int else none) S' Q = _
  by_cases h : x.length ≤ 640
  · rw [if_pos h]
    cases e : intText? x with
    | none => exact propext ⟨fun q => q.elim, fun ⟨_, n, z, _⟩ => nomatch z⟩
    | some n => exact propext ⟨fun q => ⟨h, n, rfl, q⟩, fun ⟨_, n', z, q⟩ => by cases z; exact q⟩
  · rw [if_neg h]
    exact propext ⟨fun q => q.elim, fun q => absurd q.1 h⟩
theorem m_ext {n : Nat} : wpc (mExtend (.ref n) [d] S) Q = atL S n fun l => wpo (seqLT S d) S fun m S => flatL m = true ∧ l.length + m.length ≤ sizeLine ∧ Q .non (S.set n ⟨true, .lst (l ++ m)⟩) := by
  unfold mExtend atL
  rw [liveL_at]
  split
  · rename_i x m l e1 e2
    cases e1
    split at e2
    · rename_i l' e3
      cases e2
      cases em : seqLT S d with
      | none => exact propext ⟨fun q => q.elim, fun ⟨l2, e4, q⟩ => q.elim⟩
      | some m' =>
        show wpc (if flatL m' = true ∧ l.length + m'.length ≤ sizeLine then some (D.non, S.set n ⟨true, .lst (l ++ m')⟩) else none) Q = _
        by_cases h : flatL m' = true ∧ l.length + m'.length ≤ sizeLine
        · rw [if_pos h]
          exact propext ⟨fun q => ⟨l, e3, h.1, h.2, q⟩, fun ⟨l2, e4, _, _, q⟩ => by rw [e3] at e4; cases e4; exact q⟩
        · rw [if_neg h]
          exact propext ⟨fun q => q.elim, fun ⟨l2, e4, q1, q2, _⟩ => by rw [e3] at e4; cases e4; exact absurd ⟨q1, q2⟩ h⟩
    · cases e2
  · rename_i hn
    refine propext ⟨fun q => q.elim, fun ⟨l, e, _⟩ => ?_⟩
    exact (hn d n l rfl (by rw [e])).elim
theorem slt_l : seqLT S (.lst l) = some l := nrfl rfl
theorem slt_t : seqLT S (.tup l) = some l := nrfl rfl
theorem slt_r {n : Nat} : seqLT S (.ref n) = seqL S (.ref n) := nrfl rfl
theorem c_dm : wpo (dDivmod [.int i, .int j] S) S' Q = (okDiv j ∧ Q (.tup [.int (i / j), .int (i % j)]) S') := o_ite
theorem w_ne_obj {c : Nat} {g : List D → M D} {l' : List D} (h : wp (g [.obj c l, .obj c l'] S) (fun d S => ∃ k, d = .bl k ∧ Q (.bl (!k)) S) noE) : wp (neOwn c g (.obj c l) (.obj c l') S) Q E := by
  unfold neOwn
  rw [w_bind]
  refine w_eq_obj (Q := fun d S => wp ((match d with
    | .bl b => kon (.bl (!b))
    | _ => stuck : M D) S) Q E) (wp_mono h (fun d S ⟨k, e, q⟩ => ⟨k, e, ?_⟩) fun _ _ z => z)
  exact q
theorem c_split : wpo (mSplit (.str x) [.str y] S) S' QL = (((y.length == 0) = false ∧ x.length + 2 ≤ sizeLine ∧ (Txt.split x y).length ≤ sizeLine ∧ (∀ z ∈ Txt.split x y, z.length ≤ sizeLine)) ∧ QL ((Txt.split x y).map .str) S') := by
  show wpo (if (y.length == 0) = false ∧ x.length + 2 ≤ sizeLine ∧ (Txt.split x y).length ≤ sizeLine ∧ (∀ z ∈ Txt.split x y, z.length ≤ sizeLine) then some ((Txt.split x y).map D.str) else none) S' QL = _
  rw [o_ite]
theorem c_join {ys : List Str} : wpc (mJoin (.str x) [.lst (ys.map .str)] S) Q = (((ys.map (·.length)).sum + ys.length * x.length ≤ 16777216 ∧ (Txt.join x ys).length ≤ sizeLine) ∧ Q (.str (Txt.join x ys)) S) := by
  unfold mJoin
  show wpc (match (some (ys.map D.str)).bind strs? with
    | some ys => if (ys.map (·.length)).sum + ys.length * x.length ≤ 16777216 ∧ (Txt.join x ys).length ≤ sizeLine then some (D.str (Txt.join x ys), S) else none
    | none => none) Q = _
  rw [show (some (ys.map D.str)).bind strs? = strs? (ys.map D.str) from rfl, strs?_map]
  show wpc (if (ys.map (·.length)).sum + ys.length * x.length ≤ 16777216 ∧ (Txt.join x ys).length ≤ sizeLine then some (D.str (Txt.join x ys), S) else none) Q = _
  by_cases h : (ys.map (·.length)).sum + ys.length * x.length ≤ 16777216 ∧ (Txt.join x ys).length ≤ sizeLine
  · rw [if_pos h]
    exact propext ⟨fun q => ⟨h, q⟩, fun q => q.2⟩
  · rw [if_neg h]
    exact propext ⟨fun q => q.elim, fun q => absurd q.1 h⟩
theorem c_rep {k : Int} : wpo (repD l (.int k)) S QL = (((-(2 ^ 63) ≤ k ∧ k < 2 ^ 63) ∧ l.length * k.toNat ≤ sizeLine) ∧ QL (List.replicate k.toNat l).flatten S) := o_ite
theorem x_str {k : Int} : wpo (ixD (.str x) (.int k) S) S' Q = ∃ c, atI x.cps.toList k = some c ∧ Q (.str ⟨#[c]⟩) S' := by
  show wpo ((atI x.cps.toList k).map fun c => D.str ⟨#[c]⟩) S' Q = _
  cases atI x.cps.toList k with
  | none => exact propext ⟨fun q => q.elim, fun ⟨_, e, _⟩ => nomatch e⟩
  | some c => exact propext ⟨fun q => ⟨c, rfl, q⟩, fun ⟨_, e, q⟩ => by cases e; exact q⟩
theorem wret_tup {n : Nat} (h : flatL l = true) : wret n S (.tup l) Q = Q (.tup l) (S.take n) := wret_flat (by rw [flat_tup]; exact h)
theorem wret_lst {n : Nat} (h : flatL l = true) : wret n S (.lst l) Q = Q (.lst l) (S.take n) := wret_flat (by rw [flat_lst]; exact h)
theorem o_catRL {n : Nat} : wpo (catL (.ref n) (.lst m) S) S' QL = wpo (seqL S (.ref n)) S' fun l S' => l.length + m.length ≤ sizeLine ∧ QL (l ++ m) S' := by
  unfold catL
  cases e : seqL S (.ref n) with
  | none => rfl
  | some l =>
    show wpo (if l.length + m.length ≤ sizeLine then some (l ++ m) else none) S' QL = _
    rw [o_ite]
    rfl
theorem o_addRL {n : Nat} : wpo (dAdd (.ref n) (.lst m) S) S' Q = wpo (seqL S (.ref n)) S' fun l S' => l.length + m.length ≤ sizeLine ∧ Q (.lst (l ++ m)) S' := by
  show wpo ((catL (.ref n) (.lst m) S).map D.lst) S' Q = _
  unfold catL
  cases e : seqL S (.ref n) with
  | none => rfl
  | some l =>
    show wpo ((if l.length + m.length ≤ sizeLine then some (l ++ m) else none).map D.lst) S' Q = _
    by_cases h : l.length + m.length ≤ sizeLine
    · rw [if_pos h]
      exact propext ⟨fun q => ⟨h, q⟩, fun q => q.2⟩
    · rw [if_neg h]
      exact propext ⟨fun q => q.elim, fun q => absurd q.1 h⟩
theorem cut_m1 {l : List D} : cutD l none (some (-1)) = l.dropLast := by
  unfold cutD
  have e1 : HT.sIx l.length 0 none = 0 := rfl
  have e2 : HT.sIx l.length l.length (some (-1)) = l.length - 1 := by
    show (if (-1 : Int) < 0 then ((-1 : Int) + (l.length : Int)).toNat else min (-1 : Int).toNat l.length) = _
    rw [if_pos (by decide)]
    omega
  rw [e1, e2, List.drop_zero, Nat.sub_zero, List.dropLast_eq_take]
theorem isi_obj {c : Nat} {tab : List (Nat × Bool)} : isiCD tab (.obj c l) S = (tab.lookup c).map .bl := nrfl rfl
theorem isi_str {tab : List (Nat × Bool)} : isiCD tab (.str x) S = some (.bl false) := nrfl rfl
end
end DL
end
section
set_option maxHeartbeats 4000000
/-! DE: plain data of any form: equal to itself, written. -/
namespace DL
open PySem PySem.Spec L2
open PyProof.Rows hiding St
def strGood (x : Str) : Prop := (∀ c ∈ x.cps.toList, c < 0x110000) ∧ x.length ≤ 1000000
/-- plain data, n deep -/
inductive Gd : Nat → D → Prop
  | non {n : Nat} : Gd n .non
  | bl {n : Nat} {b : Bool} : Gd n (.bl b)
  | int {n : Nat} {i : Int} : logOk i → Gd n (.int i)
  | str {n : Nat} {x : Str} : strGood x → Gd n (.str x)
  | lst {n : Nat} {l : List D} : (∀ d ∈ l, Gd n d) → Gd (n + 1) (.lst l)
  | tup {n : Nat} {l : List D} : (∀ d ∈ l, Gd n d) → Gd (n + 1) (.tup l)
/-- an upper bound of the length of what is written -/
def wt : D → Nat
  | .non => 4
  | .bl _ => 5
  | .int _ => 1921
  | .str x => 10 * x.length + 2
  | .lst l => 3 + (l.attach.map fun ⟨d, _⟩ => wt d + 2).sum
  | .tup l => 3 + (l.attach.map fun ⟨d, _⟩ => wt d + 2).sum
  | _ => 0
def wtL (l : List D) : Nat := (l.map fun d => wt d + 2).sum
theorem wt_lst (l : List D) : wt (.lst l) = 3 + wtL l := by
  unfold wt wtL
  congr 2
  exact List.attach_map_val (f := fun d => wt d + 2)
theorem wt_tup (l : List D) : wt (.tup l) = 3 + wtL l := by
  unfold wt wtL
  congr 2
  exact List.attach_map_val (f := fun d => wt d + 2)
theorem wtL_nil : wtL [] = 0 := rfl
theorem wtL_cons {d : D} {l : List D} : wtL (d :: l) = wt d + 2 + wtL l := by unfold wtL; simp
theorem wtL_le {γ : Type} {f : γ → D} {l : List γ} {w : Nat} (h : ∀ a ∈ l, wt (f a) ≤ w) : wtL (l.map f) ≤ l.length * (w + 2) := by
  induction l with
  | nil => exact Nat.zero_le _
  | cons a l ih =>
    have := ih fun b hb => h b (List.mem_cons_of_mem _ hb)
    have := h a List.mem_cons_self
    rw [List.map_cons, wtL_cons, List.length_cons, Nat.add_mul, Nat.one_mul]
    omega
theorem wt_int {i : Int} : wt (.int i) = 1921 := by unfold wt; rfl
theorem wt_non : wt .non = 4 := by unfold wt; rfl
theorem wt_bl {b : Bool} : wt (.bl b) = 5 := by unfold wt; rfl
theorem wt_str {x : Str} : wt (.str x) = 10 * x.length + 2 := by unfold wt; rfl
structure PyG (n : Nat) (w : Nat) (p : PyData) : Prop where
  lay : p.canLay0 = true
  dep : p.depth ≤ n
  sho : p.showable = true
  dic : p.hasDict = false
  pla : p.plain = true
  len : p.shown.length ≤ w
structure PyGs (n : Nat) (w : Nat) (p : List PyData) : Prop where
  lay : PyData.canLayAll0 p = true
  dep : PyData.depthAll p ≤ n
  sho : PyData.showableAll p = true
  dic : PyData.hasDictAll p = false
  pla : PyData.plainAll p = true
  len : piled (PyData.shownAll p) ≤ w
theorem gd_flat {n : Nat} {d : D} (h : Gd n d) : d.flat = true := by
  induction h with
  | non => simp
  | bl => simp
  | int => simp
  | str => simp
  | lst h ih => rw [flat_lst]; unfold flatL; exact List.all_eq_true.mpr ih
  | tup h ih => rw [flat_tup]; unfold flatL; exact List.all_eq_true.mpr ih
theorem gd_list {n : Nat} : ∀ (l : List D), (∀ d ∈ l, Gd n d) → (∀ d ∈ l, ∃ p, toPy d = some p ∧ PyG n (wt d) p) → ∃ ps, toPyL l = some ps ∧ PyGs n (wtL l) ps
  | [], _, _ => ⟨[], rfl, ⟨rfl, Nat.zero_le _, rfl, rfl, rfl, Nat.zero_le _⟩⟩
  | d :: l, h, h2 => by
    obtain ⟨p, e, g⟩ := h2 d List.mem_cons_self
    obtain ⟨ps, es, gs⟩ := gd_list l (fun x hx => h x (List.mem_cons_of_mem _ hx)) (fun x hx => h2 x (List.mem_cons_of_mem _ hx))
    refine ⟨p :: ps, ?_, ⟨?_, ?_, ?_, ?_, ?_, ?_⟩⟩
    · show (match toPy d, toPyL l with
        | some e, some es => some (e :: es)
        | _, _ => none) = _
      rw [e, es]
    · show (p.canLay0 && PyData.canLayAll0 ps) = true
      rw [g.lay, gs.lay]; rfl
    · show max p.depth (PyData.depthAll ps) ≤ n
      exact Nat.max_le.mpr ⟨g.dep, gs.dep⟩
    · show (p.showable && PyData.showableAll ps) = true
      rw [g.sho, gs.sho]; rfl
    · show (p.hasDict || PyData.hasDictAll ps) = false
      rw [g.dic, gs.dic]; rfl
    · show (p.plain && PyData.plainAll ps) = true
      rw [g.pla, gs.pla]; rfl
    · rw [PyData.shownAll_cons, piled_cons, wtL_cons]
      have := g.len
      have := gs.len
      omega
theorem gd_py {n : Nat} {d : D} (h : Gd n d) : ∃ p, toPy d = some p ∧ PyG n (wt d) p := by
  induction h with
  | non => exact ⟨.none, rfl, ⟨rfl, Nat.zero_le _, rfl, rfl, rfl, by rw [wt_non]; exact (by decide : (PyData.none).shown.length ≤ 4)⟩⟩
  | @bl n b => exact ⟨.bool b, rfl, ⟨rfl, Nat.zero_le _, rfl, rfl, rfl, by rw [wt_bl]; cases b <;> decide +kernel⟩⟩
  | @int n i h => exact ⟨.int i, rfl, ⟨rfl, Nat.zero_le _, decide_eq_true h, rfl, rfl, by rw [wt_int]; exact shown_int_le h⟩⟩
  | @str n x h => exact ⟨.str x, rfl, ⟨by
      show PyData.strOk x = true
      unfold PyData.strOk
      rw [← Array.all_toList]
      exact List.all_eq_true.mpr fun c hc => decide_eq_true (h.1 c hc), Nat.zero_le _, rfl, rfl, rfl, by
      rw [wt_str]
      exact StrLaws.reprText_len x fun c hc => Nat.lt_trans (h.1 c hc) (by decide)⟩⟩
  | @lst n l h ih =>
    obtain ⟨ps, e, g⟩ := gd_list l h ih
    refine ⟨.list ps, by show (match toPyL l with | some m => some (PyData.list m) | none => none) = _; rw [e], ⟨g.lay, Nat.succ_le_succ g.dep, g.sho, g.dic, g.pla, ?_⟩⟩
    show (listText (PyData.shownAll ps)).length ≤ _
    have := listText_le (PyData.shownAll ps)
    have := g.len
    rw [wt_lst]
    omega
  | @tup n l h ih =>
    obtain ⟨ps, e, g⟩ := gd_list l h ih
    refine ⟨.tuple ps, by show (match toPyL l with | some m => some (PyData.tuple m) | none => none) = _; rw [e], ⟨g.lay, Nat.succ_le_succ g.dep, g.sho, g.dic, g.pla, ?_⟩⟩
    show (tupleText (PyData.shownAll ps)).length ≤ _
    have := tupleText_le (PyData.shownAll ps)
    have := g.len
    rw [wt_tup]
    omega
section
variable {S : Cells} {n : Nat} {d : D}
theorem gd_vw (h : Gd n d) : ∃ p, vw S d = some p ∧ PyG n (wt d) p := by
  obtain ⟨p, e, g⟩ := gd_py h
  refine ⟨p, ?_, g⟩
  unfold vw
  rw [resv_flat _ _ _ (gd_flat h)]
  exact e
theorem PyG.shaped {w : Nat} {p : PyData} (g : PyG n w p) (hn : n ≤ 64) : SeqAt.shaped p = true := by
  show (p.canLay0 && decide (p.depth ≤ 64)) = true
  rw [g.lay, decide_eq_true (Nat.le_trans g.dep hn)]
  rfl
theorem eqP_same (h : Gd n d) (hn : n ≤ 64) : eqP d d S = some true := by
  obtain ⟨p, e, g⟩ := gd_vw (S := S) h
  rw [eqP_of e e (g.shaped hn) (g.shaped hn), SeqAt.eqv_refl_plain p g.pla]
theorem dEq_same (h : Gd n d) (hn : n ≤ 64) : dEq d d S = some (.bl true) := by
  cases d with
  | str x => show some (D.bl (decide (x = x))) = _; rw [decide_eq_true rfl]
  | _ => exact (congrArg (Option.map D.bl) (eqP_same (S := S) h hn) : _)
theorem dNe_same (h : Gd n d) (hn : n ≤ 64) : dNe d d S = some (.bl false) := by
  cases d with
  | str x => show some (D.bl (!decide (x = x))) = _; rw [decide_eq_true rfl]; rfl
  | _ => exact (congrArg (Option.map fun b => D.bl (!b)) (eqP_same (S := S) h hn) : _)
theorem repr_some (h : Gd n d) (hn : n ≤ 60) (hw : wt d ≤ sizeLine) (hs : ∀ x, d ≠ .str x) (hb : ∀ b, d ≠ .bl b) : ∃ x, ∀ S, reprD [d] S = some (.str x) := by
  obtain ⟨p, e0, g⟩ := gd_py h
  have e : ∀ S, vw S d = some p := fun S => by unfold vw; rw [resv_flat _ _ _ (gd_flat h)]; exact e0
  cases h with
  | non => exact ⟨_, fun S => rfl⟩
  | bl => exact absurd rfl (hb _)
  | str => exact absurd rfl (hs _)
  | @int _ i h =>
    refine ⟨toString i, fun S => ?_⟩
    show (if i.natAbs.log2 < 1920 ∧ (toString i : Str).length ≤ sizeLine then some (D.str (toString i)) else none) = _
    have := shown_int_le h
    rw [PyData.shown_int] at this
    exact if_pos ⟨h, Nat.le_trans this (by decide)⟩
  | @lst _ l h =>
    obtain ⟨ps, rfl⟩ : ∃ ps, p = .list ps := by
      have e0 : (match toPyL l with | some m => some (PyData.list m) | none => none) = some p := e0
      cases q : toPyL l with
      | none => rw [q] at e0; cases e0
      | some m => rw [q] at e0; cases e0; exact ⟨m, rfl⟩
    refine ⟨(PyData.list ps).shown, fun S => ?_⟩
    show (match vw S (.lst l) with
      | some p => match p with
        | .list _ => if p.showable = true ∧ p.hasDict = false ∧ p.depth ≤ 60 ∧ p.shown.length ≤ sizeLine then some (D.str p.shown) else none
        | .tuple _ => if p.showable = true ∧ p.hasDict = false ∧ p.depth ≤ 60 ∧ p.shown.length ≤ sizeLine then some (D.str p.shown) else none
        | _ => none
      | none => none) = _
    rw [e S]
    exact if_pos ⟨g.sho, g.dic, Nat.le_trans g.dep hn, Nat.le_trans g.len hw⟩
  | @tup _ l h =>
    obtain ⟨ps, rfl⟩ : ∃ ps, p = .tuple ps := by
      have e0 : (match toPyL l with | some m => some (PyData.tuple m) | none => none) = some p := e0
      cases q : toPyL l with
      | none => rw [q] at e0; cases e0
      | some m => rw [q] at e0; cases e0; exact ⟨m, rfl⟩
    refine ⟨(PyData.tuple ps).shown, fun S => ?_⟩
    show (match vw S (.tup l) with
      | some p => match p with
        | .list _ => if p.showable = true ∧ p.hasDict = false ∧ p.depth ≤ 60 ∧ p.shown.length ≤ sizeLine then some (D.str p.shown) else none
        | .tuple _ => if p.showable = true ∧ p.hasDict = false ∧ p.depth ≤ 60 ∧ p.shown.length ≤ sizeLine then some (D.str p.shown) else none
        | _ => none
      | none => none) = _
    rw [e S]
    exact if_pos ⟨g.sho, g.dic, Nat.le_trans g.dep hn, Nat.le_trans g.len hw⟩
/-- a changed list, written: as the frozen one -/
theorem repr_refL {m : Nat} {b : Bool} {l : List D} (h : S[m]? = some ⟨b, .lst l⟩) (hf : flatL l = true) : reprD [.ref m] S = reprD [.lst l] S := by
  have e : vw S (.ref m) = vw S (.lst l) := by
    unfold vw
    rw [resv_flat _ _ (.lst l) (by rw [flat_lst]; exact hf)]
    unfold resv
    rw [if_neg (by omega), h]
  show (match vw S (.ref m) with
      | some p => match p with
        | .list _ => if p.showable = true ∧ p.hasDict = false ∧ p.depth ≤ 60 ∧ p.shown.length ≤ sizeLine then some (D.str p.shown) else none
        | .tuple _ => if p.showable = true ∧ p.hasDict = false ∧ p.depth ≤ 60 ∧ p.shown.length ≤ sizeLine then some (D.str p.shown) else none
        | _ => none
      | none => none) = _
  rw [e]
  rfl
theorem Gd.mono {m : Nat} (hm : n ≤ m) (h : Gd n d) : Gd m d := by
  induction h generalizing m with
  | non => exact .non
  | bl => exact .bl
  | int h => exact .int h
  | str h => exact .str h
  | @lst k l h ih =>
    obtain ⟨j, rfl⟩ : ∃ j, m = j + 1 := ⟨m - 1, by omega⟩
    exact .lst fun d hd => ih d hd (by omega)
  | @tup k l h ih =>
    obtain ⟨j, rfl⟩ : ∃ j, m = j + 1 := ⟨m - 1, by omega⟩
    exact .tup fun d hd => ih d hd (by omega)
theorem Gd.map {γ : Type} {f : γ → D} {l : List γ} (h : ∀ a ∈ l, Gd n (f a)) : ∀ d ∈ l.map f, Gd n d := fun d hd => by
  obtain ⟨a, ha, rfl⟩ := List.mem_map.mp hd
  exact h a ha
end
end DL
end
section
set_option maxHeartbeats 400000
/-! MTxt: numbers written, words, texts split and joined. -/
namespace MT
open PySem PySem.Spec L2
abbrev L (x : Str) : List Nat := x.cps.toList
def ch (c : Nat) : Str := ⟨#[c]⟩
theorem L_app (x y : Str) : L (x ++ y) = L x ++ L y := PySem.W.KT.app_list x y
theorem ext {x y : Str} (h : L x = L y) : x = y := Str.ext' (Array.toList_inj.mp h)
theorem len_L (x : Str) : (L x).length = x.length := Array.length_toList
/-- a number from 0 on, written -/
def num (i : Int) : Str := Str.ofString (toString i)
def dg (m : Nat) : List Nat := (Nat.toDigits 10 m).map Char.toNat
theorem L_num (m : Nat) : L (num (m : Nat)) = dg m := by
  unfold num dg
  exact PySem.W.KIN.signs_num m
theorem dg_digits (m : Nat) : NumText.AllDigits (dg m) := by
  intro c hc
  obtain ⟨x, hx, e⟩ := List.mem_map.mp hc
  rw [← e]
  exact PyProof.Rows.digit_range (Nat.isDigit_of_mem_toDigits (by decide) (by decide) hx)
theorem dg_ne (m : Nat) : dg m ≠ [] := by
  intro e
  have h := toDigits_len_ge 10 m
  rw [List.map_eq_nil_iff.mp e] at h
  exact absurd h (by decide)
theorem dg_val (m : Nat) : NumText.digitsVal (dg m) = m := PySem.W.KIN.val_back m
theorem dg_inj {m n : Nat} (h : dg m = dg n) : m = n := by rw [← dg_val m, ← dg_val n, h]
/-- the first digit is 0 for 0 alone -/
theorem dg_head : ∀ (m : Nat) (c : Nat) (r : List Nat), dg m = c :: r → c = 48 → m = 0 := by
  intro m
  induction m using Nat.strongRecOn with
  | _ m ih =>
    intro c r e hc
    by_cases h : m < 10
    · unfold dg at e
      rw [Nat.toDigits_of_lt_base h] at e
      have e1 : (Nat.digitChar m).toNat = c := by
        have := congrArg List.head? e
        simpa using this
      have := PySem.W.KIN.digit_back m h
      omega
    · have hm : m % 10 < 10 := Nat.mod_lt m (by decide)
      have t : Nat.toDigits 10 (m / 10) ++ Nat.toDigits 10 (m % 10) = Nat.toDigits 10 (10 * (m / 10) + m % 10) := Nat.toDigits_append_toDigits (by decide) (by omega) hm
      rw [Nat.div_add_mod] at t
      have e2 : dg m = dg (m / 10) ++ dg (m % 10) := by unfold dg; rw [← t, List.map_append]
      cases e3 : dg (m / 10) with
      | nil => exact absurd e3 (dg_ne _)
      | cons c' r' =>
        rw [e2, e3, List.cons_append] at e
        injection e with e4 e5
        have := ih (m / 10) (by omega) c' r' e3 (by omega)
        omega
theorem num_len {i : Int} {k : Nat} (h0 : 0 ≤ i) (h1 : 1 ≤ k) (h : i < 10 ^ k) : (num i).length ≤ k := PyProof.Rows.toString_length_le h0 h1 h
theorem num_pos (m : Nat) : 1 ≤ (num (m : Nat)).length := by
  rw [← len_L, L_num]
  cases h : dg m with
  | nil => exact absurd h (dg_ne m)
  | cons c r => simp
theorem num_reads {i : Int} (h0 : 0 ≤ i) (h : i < 10 ^ 600) : intText? (num i) = some i := by
  obtain ⟨m, rfl⟩ := Int.eq_ofNat_of_zero_le h0
  have hl := num_len h0 (by decide : 1 ≤ 600) h
  have e := intText_digits (x := num (m : Nat)) (by rw [show (num (m : Nat)).cps.toList = dg m from L_num m]; exact dg_digits m) (by rw [show (num (m : Nat)).cps.toList = dg m from L_num m]; exact dg_ne m) (by omega)
  rw [show (num (m : Nat)).cps.toList = dg m from L_num m, dg_val] at e
  exact e
theorem num_free {m : Nat} {c : Nat} (hc : c < 48 ∨ 57 < c) : c ∉ L (num (m : Nat)) := by
  rw [L_num]
  intro h
  have := dg_digits m c h
  omega
theorem num_inj {i j : Int} (hi : 0 ≤ i) (hj : 0 ≤ j) (h : num i = num j) : i = j := by
  obtain ⟨m, rfl⟩ := Int.eq_ofNat_of_zero_le hi
  obtain ⟨n, rfl⟩ := Int.eq_ofNat_of_zero_le hj
  have := congrArg L h
  rw [L_num, L_num] at this
  rw [dg_inj this]
/-! texts joined and split -/
def inter (c : Nat) : List (List Nat) → List Nat
  | [] => []
  | [x] => x
  | x :: y :: r => x ++ c :: inter c (y :: r)
theorem L_join (c : Nat) : ∀ ws : List Str, L (Str.join (ch c) ws) = inter c (ws.map L)
  | [] => rfl
  | [x] => rfl
  | x :: y :: r => by
    show L (x ++ ch c ++ Str.join (ch c) (y :: r)) = L x ++ c :: inter c ((y :: r).map L)
    rw [L_app, L_app, L_join c (y :: r), List.append_assoc]
    rfl
theorem cut_inj {c : Nat} : ∀ {x y r s : List Nat}, c ∉ x → c ∉ y → x ++ c :: r = y ++ c :: s → x = y ∧ r = s
  | [], [], r, s, _, _, h => by
    injection h with _ h
    exact ⟨rfl, h⟩
  | [], b :: y, r, s, _, hy, h => by
    injection h with h _
    exact absurd (h ▸ List.mem_cons_self) hy
  | a :: x, [], r, s, hx, _, h => by
    injection h with h _
    exact absurd (h ▸ List.mem_cons_self) hx
  | a :: x, b :: y, r, s, hx, hy, h => by
    injection h with h1 h2
    obtain ⟨h3, h4⟩ := cut_inj (fun z => hx (List.mem_cons_of_mem _ z)) (fun z => hy (List.mem_cons_of_mem _ z)) h2
    exact ⟨by rw [h1, h3], h4⟩
theorem inter_inj {c : Nat} : ∀ {xs ys : List (List Nat)}, (∀ x ∈ xs, c ∉ x) → (∀ y ∈ ys, c ∉ y) → xs ≠ [] → ys ≠ [] → inter c xs = inter c ys → xs = ys
  | [], _, _, _, h, _, _ => absurd rfl h
  | _, [], _, _, _, h, _ => absurd rfl h
  | [x], [y], _, _, _, _, h => by rw [show x = y from h]
  | [x], y :: z :: s, hx, _, _, _, h => by
    have h : x = y ++ c :: inter c (z :: s) := h
    exact absurd (h ▸ List.mem_append_right _ List.mem_cons_self) (hx x List.mem_cons_self)
  | x :: z :: r, [y], _, hy, _, _, h => by
    have h : x ++ c :: inter c (z :: r) = y := h
    exact absurd (h ▸ List.mem_append_right _ List.mem_cons_self) (hy y List.mem_cons_self)
  | x :: z :: r, y :: w :: s, hx, hy, _, _, h => by
    have h : x ++ c :: inter c (z :: r) = y ++ c :: inter c (w :: s) := h
    obtain ⟨h1, h2⟩ := cut_inj (hx x List.mem_cons_self) (hy y List.mem_cons_self) h
    rw [h1, inter_inj (fun q hq => hx q (List.mem_cons_of_mem _ hq)) (fun q hq => hy q (List.mem_cons_of_mem _ hq)) (by simp) (by simp) h2]
theorem L_inj_list : ∀ {xs ys : List Str}, xs.map L = ys.map L → xs = ys
  | [], [], _ => rfl
  | [], _ :: _, h => nomatch h
  | _ :: _, [], h => nomatch h
  | x :: xs, y :: ys, h => by
    injection h with h1 h2
    rw [ext h1, L_inj_list h2]
theorem split_join {c : Nat} {ws : List Str} (h : ∀ w ∈ ws, c ∉ L w) (hne : ws ≠ []) : Txt.split (Str.join (ch c) ws) (ch c) = ws := by
  have h1 := StrLaws.join_split (Str.join (ch c) ws) (ch c)
  have h2 := StrLaws.split_free (Str.join (ch c) ws) c
  have h3 := PyProof.Rows.split_pos (Str.join (ch c) ws) (ch c)
  refine L_inj_list (inter_inj (c := c) ?_ ?_ ?_ ?_ ?_)
  · intro x hx
    obtain ⟨p, hp, rfl⟩ := List.mem_map.mp hx
    exact h2 p hp
  · intro x hx
    obtain ⟨p, hp, rfl⟩ := List.mem_map.mp hx
    exact h p hp
  · intro e
    rw [List.map_eq_nil_iff.mp e] at h3
    exact absurd h3 (by decide)
  · intro e
    exact hne (List.map_eq_nil_iff.mp e)
  · rw [← L_join, ← L_join, h1]
theorem inS_one (c : Nat) (x : Str) : DL.inS (ch c) x = decide (c ∈ L x) := StrLaws.found_one x c
theorem join_len (c : Nat) : ∀ ws : List Str, (Str.join (ch c) ws).length ≤ (ws.map (·.length)).sum + ws.length := fun ws => by
  have := StrLaws.join_length_le (ch c) ws
  have e : (ch c).length = 1 := rfl
  rw [e] at this
  omega
/-! the word of a scan -/
def wd (a b : Int) : Str := if a = b then num a else num a ++ ch 45 ++ num b
theorem wd_len {a b : Int} (ha : 0 ≤ a ∧ a ≤ 10 ^ 30) (hb : 0 ≤ b ∧ b ≤ 10 ^ 30) : (wd a b).length ≤ 63 := by
  have h1 := num_len ha.1 (by decide : 1 ≤ 31) (by omega)
  have h2 := num_len hb.1 (by decide : 1 ≤ 31) (by omega)
  unfold wd
  split
  · omega
  · rw [Str.length_append, Str.length_append]
    have e : (ch 45).length = 1 := rfl
    omega
theorem wd_head {a b : Int} (ha : 0 ≤ a) : ∃ c r, L (wd a b) = c :: r ∧ 48 ≤ c ∧ c ≤ 57 := by
  obtain ⟨m, rfl⟩ := Int.eq_ofNat_of_zero_le ha
  cases h : dg m with
  | nil => exact absurd h (dg_ne m)
  | cons c r =>
    have hc : 48 ≤ c ∧ c ≤ 57 := dg_digits m c (by rw [h]; exact List.mem_cons_self)
    unfold wd
    split
    · exact ⟨c, r, by rw [L_num, h], hc⟩
    · refine ⟨c, r ++ L (ch 45) ++ L (num b), ?_, hc⟩
      rw [L_app, L_app, L_num, h]
      simp
theorem wd_free {a b : Int} (ha : 0 ≤ a) (hb : 0 ≤ b) {c : Nat} (h : c < 48 ∨ 57 < c) (h2 : c ≠ 45) : c ∉ L (wd a b) := by
  obtain ⟨m, rfl⟩ := Int.eq_ofNat_of_zero_le ha
  obtain ⟨n, rfl⟩ := Int.eq_ofNat_of_zero_le hb
  unfold wd
  split
  · exact num_free h
  · rw [L_app, L_app]
    intro q
    rcases List.mem_append.mp q with q | q
    · rcases List.mem_append.mp q with q | q
      · exact num_free h q
      · exact h2 (by simpa [ch, L] using q)
    · exact num_free h q
theorem wd_ne {a b : Int} (ha : 0 ≤ a) {c : Nat} {r : List Nat} {x : Str} (hx : L x = c :: r) (hc : c < 48 ∨ 57 < c) : wd a b ≠ x := by
  intro e
  obtain ⟨d, s, h, h1, h2⟩ := wd_head (b := b) ha
  rw [e, hx] at h
  injection h with h _
  omega
theorem wd_ne_nil {a b : Int} (ha : 0 ≤ a) {x : Str} (hx : L x = []) : wd a b ≠ x := by
  intro e
  obtain ⟨d, s, h, h1, h2⟩ := wd_head (b := b) ha
  rw [e, hx] at h
  cases h
theorem num_ne {a : Int} (ha : 0 ≤ a) {c : Nat} {r : List Nat} {x : Str} (hx : L x = c :: r) (hc : c < 48 ∨ 57 < c) : num a ≠ x := by
  have := wd_ne (b := a) ha hx hc
  rwa [wd, if_pos rfl] at this
theorem num_ne_nil {a : Int} (ha : 0 ≤ a) {x : Str} (hx : L x = []) : num a ≠ x := by
  have := wd_ne_nil (b := a) ha hx
  rwa [wd, if_pos rfl] at this
/-- word[:1], word[1:] -/
theorem cut_head {x : Str} {c : Nat} {r : List Nat} (h : L x = c :: r) : cutS x none (some 1) = ch c := by
  refine ext ?_
  have hl : x.length = r.length + 1 := by rw [← len_L, h]; rfl
  show ((L x).drop (HT.sIx x.length 0 none)).take (HT.sIx x.length x.length (some 1) - HT.sIx x.length 0 none) = [c]
  rw [hl, h]
  have e0 : HT.sIx (r.length + 1) 0 none = 0 := rfl
  have e1 : HT.sIx (r.length + 1) (r.length + 1) (some 1) = 1 := by
    rw [show (1 : Int) = ((1 : Nat) : Int) from rfl, HT.sIx_nat]
    omega
  rw [e0, e1]
  rfl
theorem cut_tail {x y : Str} {c : Nat} (h : x = ch c ++ y) : cutS x (some 1) none = y := by
  refine ext ?_
  have e : L x = c :: L y := by rw [h, L_app]; rfl
  have hl : x.length = y.length + 1 := by rw [← len_L, e, List.length_cons, len_L]
  show ((L x).drop (HT.sIx x.length 0 (some 1))).take (HT.sIx x.length x.length none - HT.sIx x.length 0 (some 1)) = L y
  rw [hl, e]
  have e0 : HT.sIx (y.length + 1) (y.length + 1) none = y.length + 1 := rfl
  have e1 : HT.sIx (y.length + 1) 0 (some 1) = 1 := by
    rw [show (1 : Int) = ((1 : Nat) : Int) from rfl, HT.sIx_nat]
    omega
  rw [e0, e1]
  show (L y).take (y.length + 1 - 1) = L y
  rw [Nat.add_sub_cancel, ← len_L, List.take_length]
end MT
end
section
set_option maxHeartbeats 400000
/-! MNode: nodes of programs: scans, lengths, reads, words. -/
namespace MN
open PySem PySem.Spec L2 DL MT
inductive Nd where
  | sc (a b : Int)
  | rp (l : List Nd) (t : Int)
/-- the number of addresses, the step -/
def sz (a b : Int) : Int := (if b - a < 0 then -(b - a) else b - a) + 1
def stp (a b : Int) : Int := if a ≤ b then 1 else -1
def scn (a b : Int) : List Int := (List.range (sz a b).toNat).map fun k : Nat => a + stp a b * (k : Int)
theorem sz_pos {a b : Int} : 1 ≤ sz a b := by unfold sz; split <;> omega
theorem scn_len {a b : Int} : ((scn a b).length : Int) = sz a b := by
  unfold scn
  rw [List.length_map, List.length_range]
  have := sz_pos (a := a) (b := b)
  omega
mutual
def dp : Nd → Nat
  | .sc _ _ => 0
  | .rp l _ => dps l + 1
def dps : List Nd → Nat
  | [] => 0
  | n :: l => max (dp n) (dps l)
end
mutual
def scs : Nd → List (Int × Int)
  | .sc a b => [(a, b)]
  | .rp l _ => scss l
def scss : List Nd → List (Int × Int)
  | [] => []
  | n :: l => scs n ++ scss l
end
mutual
def len : Nd → Int
  | .sc a b => sz a b
  | .rp l t => lens l * t
def lens : List Nd → Int
  | [] => 0
  | n :: l => len n + lens l
end
mutual
def rds : Nd → List Int
  | .sc a b => scn a b
  | .rp l t => (List.replicate t.toNat (rdss l)).flatten
def rdss : List Nd → List Int
  | [] => []
  | n :: l => rds n ++ rdss l
end
mutual
def wds : Nd → List Str
  | .sc a b => [wd a b]
  | .rp l t => ch 40 :: (wdss l ++ [ch 41 ++ num t])
def wdss : List Nd → List Str
  | [] => []
  | n :: l => wds n ++ wdss l
end
/-! valid nodes: addresses below w, times from 2 to h -/
mutual
def ok (w h : Int) : Nd → Prop
  | .sc a b => (0 ≤ a ∧ a < w) ∧ (0 ≤ b ∧ b < w)
  | .rp l t => l ≠ [] ∧ (2 ≤ t ∧ t ≤ h) ∧ oks w h l
def oks (w h : Int) : List Nd → Prop
  | [] => True
  | n :: l => ok w h n ∧ oks w h l
end
/-! as data of a program, of a law -/
mutual
def eP : Nd → D
  | .sc a b => .tup [.str "scan", .int a, .int b]
  | .rp l t => .tup [.str "repeat", .tup (ePs l), .int t]
def ePs : List Nd → List D
  | [] => []
  | n :: l => eP n :: ePs l
end
mutual
def eL : Nd → D
  | .sc a b => .tup [.str "scan", .int a, .int b]
  | .rp l t => .tup [.str "again", .lst (eLs l), .int t]
def eLs : List Nd → List D
  | [] => []
  | n :: l => eL n :: eLs l
end
theorem ePs_map (l : List Nd) : ePs l = l.map eP := by
  induction l with
  | nil => rfl
  | cons n l ih => rw [ePs, ih]; rfl
theorem eLs_map (l : List Nd) : eLs l = l.map eL := by
  induction l with
  | nil => rfl
  | cons n l ih => rw [eLs, ih]; rfl
theorem eP_rp (l : List Nd) (t : Int) : eP (.rp l t) = .tup [.str "repeat", .tup (l.map eP), .int t] := by rw [eP, ePs_map]
theorem eL_rp (l : List Nd) (t : Int) : eL (.rp l t) = .tup [.str "again", .lst (l.map eL), .int t] := by rw [eL, eLs_map]
theorem eP_sc (a b : Int) : eP (.sc a b) = .tup [.str "scan", .int a, .int b] := by rw [eP]
theorem eL_sc (a b : Int) : eL (.sc a b) = .tup [.str "scan", .int a, .int b] := by rw [eL]
theorem scss_app (l m : List Nd) : scss (l ++ m) = scss l ++ scss m := by
  induction l with
  | nil => rfl
  | cons n l ih => rw [List.cons_append, scss, ih, scss, List.append_assoc]
theorem rdss_app (l m : List Nd) : rdss (l ++ m) = rdss l ++ rdss m := by
  induction l with
  | nil => rfl
  | cons n l ih => rw [List.cons_append, rdss, ih, rdss, List.append_assoc]
theorem wdss_app (l m : List Nd) : wdss (l ++ m) = wdss l ++ wdss m := by
  induction l with
  | nil => rfl
  | cons n l ih => rw [List.cons_append, wdss, ih, wdss, List.append_assoc]
theorem lens_app (l m : List Nd) : lens (l ++ m) = lens l + lens m := by
  induction l with
  | nil => rw [List.nil_append, lens]; omega
  | cons n l ih => rw [List.cons_append, lens, ih, lens]; omega
theorem dps_app (l m : List Nd) : dps (l ++ m) = max (dps l) (dps m) := by
  induction l with
  | nil => rw [List.nil_append, dps]; omega
  | cons n l ih => rw [List.cons_append, dps, ih, dps]; omega
theorem oks_app {w h : Int} (l m : List Nd) : oks w h (l ++ m) ↔ oks w h l ∧ oks w h m := by
  induction l with
  | nil => rw [List.nil_append, oks]; simp
  | cons n l ih => rw [List.cons_append, oks, ih, oks, and_assoc]
theorem scss_one (n : Nd) : scss [n] = scs n := by rw [scss, scss, List.append_nil]
theorem rdss_one (n : Nd) : rdss [n] = rds n := by rw [rdss, rdss, List.append_nil]
theorem wdss_one (n : Nd) : wdss [n] = wds n := by rw [wdss, wdss, List.append_nil]
theorem lens_one (n : Nd) : lens [n] = len n := by rw [lens, lens]; omega
theorem dps_one (n : Nd) : dps [n] = dp n := by rw [dps, dps]; omega
theorem oks_one {w h : Int} (n : Nd) : oks w h [n] ↔ ok w h n := by rw [oks, oks]; simp
theorem dp_mem {l : List Nd} {n : Nd} (h : n ∈ l) : dp n ≤ dps l := by
  induction l with
  | nil => simp at h
  | cons m l ih =>
    rw [dps]
    rcases List.mem_cons.mp h with h | h
    · subst h; omega
    · have := ih h; omega
theorem ok_mem {w h : Int} {l : List Nd} {n : Nd} (k : oks w h l) (hn : n ∈ l) : ok w h n := by
  induction l with
  | nil => simp at hn
  | cons m l ih =>
    rw [oks] at k
    rcases List.mem_cons.mp hn with z | z
    · subst z; exact k.1
    · exact ih k.2 z
/-- something of all nodes by their depth -/
theorem ind {P : Nat → List Nd → Prop} (h : ∀ n, (∀ l, dps l < n → P (n - 1) l) → ∀ l, dps l ≤ n → P n l) : ∀ n l, dps l ≤ n → P n l := by
  intro n
  induction n with
  | zero => exact fun l hl => h 0 (fun l' h' => by omega) l hl
  | succ n ih => exact fun l hl => h (n + 1) (fun l' h' => ih l' (by omega)) l hl
theorem ok_mono {w h w' h' : Int} (hw : w ≤ w') (hh : h ≤ h') : ∀ n l, dps l ≤ n → oks w h l → oks w' h' l := by
  intro n
  induction n with
  | zero =>
    intro l hl k
    induction l with
    | nil => rw [oks]; trivial
    | cons m l ih =>
      rw [oks] at k ⊢
      rw [dps] at hl
      refine ⟨?_, ih (by omega) k.2⟩
      cases m with
      | sc a b => have := k.1; rw [ok] at this ⊢; omega
      | rp l t => rw [dp] at hl; omega
  | succ n ihn =>
    intro l hl k
    induction l with
    | nil => rw [oks]; trivial
    | cons m l ih =>
      rw [oks] at k ⊢
      rw [dps] at hl
      refine ⟨?_, ih (by omega) k.2⟩
      cases m with
      | sc a b => have := k.1; rw [ok] at this ⊢; omega
      | rp l t =>
        rw [dp] at hl
        have := k.1
        rw [ok] at this ⊢
        exact ⟨this.1, by omega, ihn l (by omega) this.2.2⟩
theorem len_flat' (t : Nat) (r : List Int) : (List.replicate t r).flatten.length = t * r.length := DL.len_flat t r
/-- as many reads as accesses -/
theorem rdss_len {w h : Int} : ∀ n l, dps l ≤ n → oks w h l → ((rdss l).length : Int) = lens l := by
  have one : ∀ n : Nat, (∀ l, dps l < n → oks w h l → ((rdss l).length : Int) = lens l) → ∀ l, dps l ≤ n → oks w h l → ((rdss l).length : Int) = lens l := by
    intro n ihn l hl k
    induction l with
    | nil => rw [rdss, lens]; rfl
    | cons m l ih =>
      rw [oks] at k
      rw [dps] at hl
      rw [rdss, lens, List.length_append]
      have e := ih (by omega) k.2
      have em : ((rds m).length : Int) = len m := by
        cases m with
        | sc a b => rw [rds, len]; exact scn_len
        | rp l t =>
          rw [dp] at hl
          have := k.1
          rw [ok] at this
          rw [rds, len, len_flat', Int.natCast_mul, ihn l (by omega) this.2.2, Int.mul_comm, Int.toNat_of_nonneg (by omega)]
      omega
  intro n
  induction n with
  | zero => exact one 0 fun l hl => by omega
  | succ n ih => exact one (n + 1) fun l hl => ih l (by omega)
theorem lens_pos {w h : Int} {l : List Nd} (k : oks w h l) : 0 ≤ lens l := by
  rw [← rdss_len (dps l) l (Nat.le_refl _) k]
  exact Int.natCast_nonneg _
theorem len_one_pos {w h : Int} : ∀ n l, dps l ≤ n → oks w h l → l ≠ [] → 1 ≤ lens l := by
  intro n
  induction n with
  | zero =>
    intro l hl k hne
    cases l with
    | nil => exact absurd rfl hne
    | cons m l =>
      rw [oks] at k
      rw [dps] at hl
      have := lens_pos k.2
      rw [lens]
      cases m with
      | sc a b => rw [len]; have := sz_pos (a := a) (b := b); omega
      | rp l t => rw [dp] at hl; omega
  | succ n ih =>
    intro l hl k hne
    cases l with
    | nil => exact absurd rfl hne
    | cons m l =>
      rw [oks] at k
      rw [dps] at hl
      have := lens_pos k.2
      rw [lens]
      cases m with
      | sc a b => rw [len]; have := sz_pos (a := a) (b := b); omega
      | rp l2 t =>
        rw [dp] at hl
        have k1 := k.1
        rw [ok] at k1
        have := ih l2 (by omega) k1.2.2 k1.1
        rw [len]
        have := Int.mul_le_mul this k1.2.1.1 (by omega) (by omega)
        omega
theorem len_pos {w h : Int} {m : Nd} (k : ok w h m) : 1 ≤ len m := by
  have := len_one_pos (w := w) (h := h) (dps [m]) [m] (Nat.le_refl _) ((oks_one m).mpr k) (by simp)
  rwa [lens_one] at this
/-- at most so many accesses -/
theorem lens_le {w h : Int} (hw : 1 ≤ w) (hh : 2 ≤ h) : ∀ n l, dps l ≤ n → oks w h l → lens l ≤ (scss l).length * w * h ^ n := by
  have hp : ∀ n : Nat, (1 : Int) ≤ h ^ n := fun n => by
    induction n with
    | zero => simp
    | succ n ih =>
      rw [Int.pow_succ]
      have := Int.mul_le_mul ih (show (1 : Int) ≤ h by omega) (by omega) (by omega)
      omega
  have key : ∀ n : Nat, (∀ l, dps l < n → oks w h l → lens l ≤ (scss l).length * w * h ^ (n - 1)) → ∀ l, dps l ≤ n → oks w h l → lens l ≤ (scss l).length * w * h ^ n := by
    intro n ihn l hl k
    induction l with
    | nil => rw [lens, scss]; simp
    | cons m l ih =>
      rw [oks] at k
      rw [dps] at hl
      rw [lens, scss, List.length_append]
      have e := ih (by omega) k.2
      have em : len m ≤ (scs m).length * w * h ^ n := by
        cases m with
        | sc a b =>
          have := k.1
          rw [ok] at this
          rw [len, scs]
          have h1 : sz a b ≤ w := by unfold sz; split <;> omega
          have h2 := Int.mul_le_mul h1 (hp n) (by omega) (by omega)
          simp only [List.length_singleton]
          have : ((1 : Nat) : Int) * w * h ^ n = w * h ^ n := by rw [Int.natCast_one, Int.one_mul]
          omega
        | rp l2 t =>
          rw [dp] at hl
          have k1 := k.1
          rw [ok] at k1
          have h1 := ihn l2 (by omega) k1.2.2
          rw [len, scs]
          obtain ⟨j, rfl⟩ : ∃ j, n = j + 1 := ⟨n - 1, by omega⟩
          rw [Nat.add_sub_cancel] at h1
          have h3 : (0 : Int) ≤ (scss l2).length * w * h ^ j := Int.mul_nonneg (Int.mul_nonneg (by omega) (by omega)) (by have := hp j; omega)
          have h2 := Int.mul_le_mul h1 k1.2.1.2 (by omega) h3
          rw [Int.pow_succ, ← Int.mul_assoc]
          exact h2
      have d : ((((scs m).length + (scss l).length : Nat) : Int)) * w * h ^ n = (scs m).length * w * h ^ n + (scss l).length * w * h ^ n := by
        rw [Int.natCast_add, Int.add_mul, Int.add_mul]
      omega
  intro n
  induction n with
  | zero => exact key 0 fun l hl => by omega
  | succ n ih => exact key (n + 1) fun l hl k => ih l (by omega) k
theorem scss_pos : ∀ (l : List Nd) (w h : Int), oks w h l → l ≠ [] → 1 ≤ (scss l).length := by
  intro l w h k hne
  have key : ∀ n l, dps l ≤ n → oks w h l → l ≠ [] → 1 ≤ (scss l).length := by
    intro n
    induction n with
    | zero =>
      intro l hl k hne
      cases l with
      | nil => exact absurd rfl hne
      | cons m l =>
        rw [dps] at hl
        rw [scss, List.length_append]
        cases m with
        | sc a b => rw [scs]; simp
        | rp l t => rw [dp] at hl; omega
    | succ n ih =>
      intro l hl k hne
      cases l with
      | nil => exact absurd rfl hne
      | cons m l =>
        rw [oks] at k
        rw [dps] at hl
        rw [scss, List.length_append]
        cases m with
        | sc a b => rw [scs]; simp
        | rp l2 t =>
          rw [dp] at hl
          have k1 := k.1
          rw [ok] at k1
          have := ih l2 (by omega) k1.2.2 k1.1
          rw [scs]
          omega
  exact key _ l (Nat.le_refl _) k hne
theorem scs_pos {w h : Int} {m : Nd} (k : ok w h m) : 1 ≤ (scs m).length := by
  have := scss_pos [m] w h ((oks_one m).mpr k) (by simp)
  rwa [scss_one] at this
theorem len_le_scss {w h : Int} {l : List Nd} (k : oks w h l) : l.length ≤ (scss l).length := by
  induction l with
  | nil => exact Nat.zero_le _
  | cons m l ih =>
    rw [oks] at k
    have h1 := scs_pos k.1
    have h2 := ih k.2
    rw [scss, List.length_append, List.length_cons]
    omega
/-- the reads of repeated nodes, by place -/
theorem rep_get (r : List Int) (t : Nat) (j : Nat) (hj : j < t * r.length) : ((List.replicate t r).flatten)[j]? = r[j % r.length]? := by
  induction t generalizing j with
  | zero => omega
  | succ t ih =>
    rw [List.replicate_succ, List.flatten_cons]
    by_cases h : j < r.length
    · rw [List.getElem?_append_left h, Nat.mod_eq_of_lt h]
    · have hl : 0 < r.length := by
        rcases Nat.eq_zero_or_pos r.length with z | z
        · rw [z] at hj; omega
        · exact z
      rw [List.getElem?_append_right (by omega), ih (j - r.length) (by rw [Nat.add_mul] at hj; omega), ← Nat.mod_eq_sub_mod (by omega)]
theorem scn_get {a b : Int} {j : Nat} (h : (j : Int) < sz a b) : (scn a b)[j]? = some (a + stp a b * j) := by
  unfold scn
  rw [List.getElem?_map, List.getElem?_range (by omega)]
  rfl
/-- an upper bound of the numbers drawn for nodes -/
def Gn : Nat → Nat → Nat
  | 0, _ => 8
  | d + 1, m => 9 + m * Gn d m
theorem Gn_ge (d m : Nat) : 8 ≤ Gn d m := by cases d <;> unfold Gn <;> omega
theorem Gn_mono (d : Nat) {m m' : Nat} (h : m ≤ m') : Gn d m ≤ Gn d m' := by
  induction d with
  | zero => exact Nat.le_refl _
  | succ d ih =>
    unfold Gn
    have := Nat.mul_le_mul h ih
    omega
end MN
end
section
set_option maxHeartbeats 400000
/-! DEx: plain data beside the empty ones; nodes as plain data. -/
namespace DL
open PySem PySem.Spec L2
open PyProof.Rows hiding St
section
variable {S : Cells} {n : Nat} {l : List D}
theorem toPy_tup (h : ∀ d ∈ l, Gd n d) : ∃ ps, toPyL l = some ps ∧ PyGs n (wtL l) ps ∧ ps.isEmpty = l.isEmpty := by
  obtain ⟨ps, e, g⟩ := gd_list l h fun d hd => gd_py (h d hd)
  refine ⟨ps, e, g, ?_⟩
  cases l with
  | nil => cases e; rfl
  | cons a l =>
    cases ps with
    | nil =>
      exfalso
      have e : (match toPy a, toPyL l with
        | some e, some es => some (e :: es)
        | _, _ => none) = some [] := e
      split at e <;> cases e
    | cons p ps => rfl
theorem vw_tup (h : ∀ d ∈ l, Gd n d) : ∃ ps, vw S (.tup l) = some (.tuple ps) ∧ PyGs n (wtL l) ps ∧ ps.isEmpty = l.isEmpty := by
  obtain ⟨ps, e, g, h2⟩ := toPy_tup h
  refine ⟨ps, ?_, g, h2⟩
  unfold vw
  rw [resv_flat _ _ _ (gd_flat (Gd.tup h))]
  show (match toPyL l with | some m => some (PyData.tuple m) | none => none) = _
  rw [e]
theorem vw_lst (h : ∀ d ∈ l, Gd n d) : ∃ ps, vw S (.lst l) = some (.list ps) ∧ PyGs n (wtL l) ps ∧ ps.isEmpty = l.isEmpty := by
  obtain ⟨ps, e, g, h2⟩ := toPy_tup h
  refine ⟨ps, ?_, g, h2⟩
  unfold vw
  rw [resv_flat _ _ _ (gd_flat (Gd.lst h))]
  show (match toPyL l with | some m => some (PyData.list m) | none => none) = _
  rw [e]
theorem shT {ps : List PyData} {w : Nat} (g : PyGs n w ps) (hn : n ≤ 60) : SeqAt.shaped (.tuple ps) = true := by
  show (PyData.canLayAll0 ps && decide (PyData.depthAll ps + 1 ≤ 64)) = true
  rw [g.lay, decide_eq_true (by have := g.dep; omega)]
  rfl
theorem shL {ps : List PyData} {w : Nat} (g : PyGs n w ps) (hn : n ≤ 60) : SeqAt.shaped (.list ps) = true := by
  show (PyData.canLayAll0 ps && decide (PyData.depthAll ps + 1 ≤ 64)) = true
  rw [g.lay, decide_eq_true (by have := g.dep; omega)]
  rfl
theorem eqv_nil (ps : List PyData) : PyData.eqvAll ps [] = ps.isEmpty := by cases ps <;> rfl
theorem vw_tnil : vw S (.tup []) = some (.tuple []) := rfl
theorem vw_lnil : vw S (.lst []) = some (.list []) := rfl
theorem dEq_tnil (h : ∀ d ∈ l, Gd n d) (hn : n ≤ 60) : dEq (.tup l) (.tup []) S = some (.bl l.isEmpty) := by
  obtain ⟨ps, e, g, h2⟩ := vw_tup (S := S) h
  show (eqP (.tup l) (.tup []) S).map D.bl = _
  rw [eqP_of e vw_tnil (shT g hn) rfl]
  show some (D.bl (PyData.eqvAll ps [])) = _
  rw [eqv_nil, h2]
theorem dNe_tnil (h : ∀ d ∈ l, Gd n d) (hn : n ≤ 60) : dNe (.tup l) (.tup []) S = some (.bl (!l.isEmpty)) := by
  obtain ⟨ps, e, g, h2⟩ := vw_tup (S := S) h
  show (eqP (.tup l) (.tup []) S).map (fun b => D.bl (!b)) = _
  rw [eqP_of e vw_tnil (shT g hn) rfl]
  show some (D.bl (!PyData.eqvAll ps [])) = _
  rw [eqv_nil, h2]
theorem dEq_lnil (h : ∀ d ∈ l, Gd n d) (hn : n ≤ 60) : dEq (.lst l) (.lst []) S = some (.bl l.isEmpty) := by
  obtain ⟨ps, e, g, h2⟩ := vw_lst (S := S) h
  show (eqP (.lst l) (.lst []) S).map D.bl = _
  rw [eqP_of e vw_lnil (shL g hn) rfl]
  show some (D.bl (PyData.eqvAll ps [])) = _
  rw [eqv_nil, h2]
theorem dNe_lnil (h : ∀ d ∈ l, Gd n d) (hn : n ≤ 60) : dNe (.lst l) (.lst []) S = some (.bl (!l.isEmpty)) := by
  obtain ⟨ps, e, g, h2⟩ := vw_lst (S := S) h
  show (eqP (.lst l) (.lst []) S).map (fun b => D.bl (!b)) = _
  rw [eqP_of e vw_lnil (shL g hn) rfl]
  show some (D.bl (!PyData.eqvAll ps [])) = _
  rw [eqv_nil, h2]
theorem strGood_scan : strGood "scan" := by
  refine ⟨?_, by decide +kernel⟩
  decide +kernel
theorem strGood_repeat : strGood "repeat" := by
  refine ⟨?_, by decide +kernel⟩
  decide +kernel
theorem strGood_again : strGood "again" := by
  refine ⟨?_, by decide +kernel⟩
  decide +kernel
open MN in
/-- nodes as plain data -/
theorem gd_eP {w h : Int} (hw : ∀ i : Int, 0 ≤ i → i < w → logOk i) (hh : ∀ i : Int, 0 ≤ i → i ≤ h → logOk i) : ∀ n l, dps l ≤ n → oks w h l → ∀ m ∈ l, Gd (2 * n + 1) (eP m) := by
  have one : ∀ n : Nat, (∀ l, dps l < n → oks w h l → ∀ m ∈ l, Gd (2 * (n - 1) + 1) (eP m)) → ∀ l, dps l ≤ n → oks w h l → ∀ m ∈ l, Gd (2 * n + 1) (eP m) := by
    intro n ihn l hl hk m hm
    have hd := dp_mem hm
    have ho := ok_mem hk hm
    cases m with
    | sc a b =>
      rw [ok] at ho
      rw [eP_sc]
      refine .tup fun d hd => ?_
      simp only [List.mem_cons, List.not_mem_nil, or_false] at hd
      rcases hd with e | e | e <;> subst e
      · exact .str strGood_scan
      · exact .int (hw _ ho.1.1 ho.1.2)
      · exact .int (hw _ ho.2.1 ho.2.2)
    | rp l2 t =>
      rw [dp] at hd
      rw [ok] at ho
      rw [eP_rp]
      obtain ⟨j, rfl⟩ : ∃ j, n = j + 1 := ⟨n - 1, by omega⟩
      refine Gd.tup (n := 2 * (j + 1)) fun d hd => ?_
      simp only [List.mem_cons, List.not_mem_nil, or_false] at hd
      rcases hd with e | e | e <;> subst e
      · exact .str strGood_repeat
      · exact Gd.tup (n := 2 * j + 1) (Gd.map (ihn l2 (by omega) ho.2.2))
      · exact .int (hh _ (by omega) ho.2.1.2)
  intro n
  induction n with
  | zero => exact one 0 fun l hl => by omega
  | succ n ih => exact one (n + 1) fun l hl => ih l (by omega)
end
end DL
end
section
set_option maxHeartbeats 4000000
namespace K26
open PySem PySem.Spec L2 DL
open PyProof.Rows hiding St
/-! ### the text -/
def top (i : Nat) : Stmt := PySem.Challenge.pw_scanmisses_k26_accesses_by_index.main.body.getD i (.Pass ⟨0, 0, 0, 0⟩)
abbrev s_is_int : Stmt := top 9
abbrev s_in_range : Stmt := top 10
abbrev s_number_in : Stmt := top 21
abbrev s_scan_in : Stmt := top 22
abbrev s_read_nodes : Stmt := top 23
abbrev s_Nodes___init__ : Stmt := inClass (top 30) 0
abbrev s_Program___init__ : Stmt := inClass (top 31) 0
abbrev s_size_of : Stmt := top 14
abbrev s_accesses_in : Stmt := top 27
abbrev s_Program_accesses : Stmt := inClass (top 31) 3
abbrev s_Program___eq__ : Stmt := inClass (top 31) 7
abbrev s_require_program : Stmt := top 33
abbrev s_step_of : Stmt := top 36
abbrev s_listed : Stmt := top 38
abbrev s_written : Stmt := top 39
abbrev s_require_index : Stmt := top 11
abbrev s_address_in : Stmt := top 37
abbrev s_address_at : Stmt := top 40
abbrev s__law_kettle : Stmt := top 42
abbrev s__law_scoop : Stmt := top 43
abbrev s__law_scans : Stmt := top 44
abbrev s__law_nodes : Stmt := top 45
abbrev s__law_length : Stmt := top 46
abbrev s__law_small : Stmt := top 47
abbrev s__law_words : Stmt := top 48
abbrev s__law_made : Stmt := top 49
abbrev s__law_reads : Stmt := top 50
abbrev s__law_few : Stmt := top 51
abbrev s__law_wide : Stmt := top 52
abbrev s_law : Stmt := top 53
abbrev N_is_int : List Str := ["value"]
theorem sc_is_int : FnScope N_is_int ["value"] (defScope s_is_int) := ⟨rfl, rfl, rfl, by decide +kernel, rfl, by decide +kernel, by decide +kernel⟩
def d_is_int : DefQ := ⟨fun K => He.ga K "is_int", "is_int", "is_int", defArgs s_is_int, defBody s_is_int, defScope s_is_int⟩
abbrev N_in_range : List Str := ["value", "low", "high"]
theorem sc_in_range : FnScope N_in_range ["value", "low", "high"] (defScope s_in_range) := ⟨rfl, rfl, rfl, by decide +kernel, rfl, by decide +kernel, by decide +kernel⟩
def d_in_range : DefQ := ⟨fun K => He.ga K "in_range", "in_range", "in_range", defArgs s_in_range, defBody s_in_range, defScope s_in_range⟩
abbrev N_number_in : List Str := ["word", "low", "sign"]
theorem sc_number_in : FnScope N_number_in ["word", "low"] (defScope s_number_in) := ⟨rfl, rfl, rfl, by decide +kernel, rfl, by decide +kernel, by decide +kernel⟩
def d_number_in : DefQ := ⟨fun K => He.ga K "number_in", "number_in", "number_in", defArgs s_number_in, defBody s_number_in, defScope s_number_in⟩
abbrev N_scan_in : List Str := ["word", "number", "parts", "numbers", "part"]
theorem sc_scan_in : FnScope N_scan_in ["word"] (defScope s_scan_in) := ⟨rfl, rfl, rfl, by decide +kernel, rfl, by decide +kernel, by decide +kernel⟩
def d_scan_in : DefQ := ⟨fun K => He.ga K "scan_in", "scan_in", "scan_in", defArgs s_scan_in, defBody s_scan_in, defScope s_scan_in⟩
abbrev N_read_nodes : List Str := ["words", "start", "depth", "scans", "found", "at", "word", "nodes", "end", "scan"]
theorem sc_read_nodes : FnScope N_read_nodes ["words", "start", "depth", "scans"] (defScope s_read_nodes) := ⟨rfl, rfl, rfl, by decide +kernel, rfl, by decide +kernel, by decide +kernel⟩
def d_read_nodes : DefQ := ⟨fun K => He.ga K "read_nodes", "read_nodes", "read_nodes", defArgs s_read_nodes, defBody s_read_nodes, defScope s_read_nodes⟩
abbrev N_Nodes___init__ : List Str := ["self", "held"]
theorem sc_Nodes___init__ : FnScope N_Nodes___init__ ["self", "held"] (defScope s_Nodes___init__) := ⟨rfl, rfl, rfl, by decide +kernel, rfl, by decide +kernel, by decide +kernel⟩
def d_Nodes___init__ : DefQ := ⟨fun K => He.ma K (He.ga K "Nodes") "__init__", "__init__", "Nodes.__init__", defArgs s_Nodes___init__, defBody s_Nodes___init__, defScope s_Nodes___init__⟩
abbrev N_Program___init__ : List Str := ["self", "text"]
theorem sc_Program___init__ : FnScope N_Program___init__ ["self", "text"] (defScope s_Program___init__) := ⟨rfl, rfl, rfl, by decide +kernel, rfl, by decide +kernel, by decide +kernel⟩
def d_Program___init__ : DefQ := ⟨fun K => He.ma K (He.ga K "Program") "__init__", "__init__", "Program.__init__", defArgs s_Program___init__, defBody s_Program___init__, defScope s_Program___init__⟩
abbrev N_size_of : List Str := ["scan"]
theorem sc_size_of : FnScope N_size_of ["scan"] (defScope s_size_of) := ⟨rfl, rfl, rfl, by decide +kernel, rfl, by decide +kernel, by decide +kernel⟩
def d_size_of : DefQ := ⟨fun K => He.ga K "size_of", "size_of", "size_of", defArgs s_size_of, defBody s_size_of, defScope s_size_of⟩
abbrev N_accesses_in : List Str := ["nodes", "found", "node"]
theorem sc_accesses_in : FnScope N_accesses_in ["nodes"] (defScope s_accesses_in) := ⟨rfl, rfl, rfl, by decide +kernel, rfl, by decide +kernel, by decide +kernel⟩
def d_accesses_in : DefQ := ⟨fun K => He.ga K "accesses_in", "accesses_in", "accesses_in", defArgs s_accesses_in, defBody s_accesses_in, defScope s_accesses_in⟩
abbrev N_Program_accesses : List Str := ["self"]
theorem sc_Program_accesses : FnScope N_Program_accesses ["self"] (defScope s_Program_accesses) := ⟨rfl, rfl, rfl, by decide +kernel, rfl, by decide +kernel, by decide +kernel⟩
def d_Program_accesses : DefQ := ⟨fun K => prG K ⟨"Program", "accesses"⟩, "accesses", "Program.accesses", defArgs s_Program_accesses, defBody s_Program_accesses, defScope s_Program_accesses⟩
abbrev N_Program___eq__ : List Str := ["self", "other"]
theorem sc_Program___eq__ : FnScope N_Program___eq__ ["self", "other"] (defScope s_Program___eq__) := ⟨rfl, rfl, rfl, by decide +kernel, rfl, by decide +kernel, by decide +kernel⟩
def d_Program___eq__ : DefQ := ⟨fun K => He.ma K (He.ga K "Program") "__eq__", "__eq__", "Program.__eq__", defArgs s_Program___eq__, defBody s_Program___eq__, defScope s_Program___eq__⟩
abbrev N_require_program : List Str := ["value"]
theorem sc_require_program : FnScope N_require_program ["value"] (defScope s_require_program) := ⟨rfl, rfl, rfl, by decide +kernel, rfl, by decide +kernel, by decide +kernel⟩
def d_require_program : DefQ := ⟨fun K => He.ga K "require_program", "require_program", "require_program", defArgs s_require_program, defBody s_require_program, defScope s_require_program⟩
abbrev N_step_of : List Str := ["scan"]
theorem sc_step_of : FnScope N_step_of ["scan"] (defScope s_step_of) := ⟨rfl, rfl, rfl, by decide +kernel, rfl, by decide +kernel, by decide +kernel⟩
def d_step_of : DefQ := ⟨fun K => He.ga K "step_of", "step_of", "step_of", defArgs s_step_of, defBody s_step_of, defScope s_step_of⟩
abbrev N_listed : List Str := ["nodes", "found", "node", "scan", "spot"]
theorem sc_listed : FnScope N_listed ["nodes"] (defScope s_listed) := ⟨rfl, rfl, rfl, by decide +kernel, rfl, by decide +kernel, by decide +kernel⟩
def d_listed : DefQ := ⟨fun K => He.ga K "listed", "listed", "listed", defArgs s_listed, defBody s_listed, defScope s_listed⟩
abbrev N_written : List Str := ["program"]
theorem sc_written : FnScope N_written ["program"] (defScope s_written) := ⟨rfl, rfl, rfl, by decide +kernel, rfl, by decide +kernel, by decide +kernel⟩
def d_written : DefQ := ⟨fun K => He.ga K "written", "written", "written", defArgs s_written, defBody s_written, defScope s_written⟩
abbrev N_require_index : List Str := ["value", "many"]
theorem sc_require_index : FnScope N_require_index ["value", "many"] (defScope s_require_index) := ⟨rfl, rfl, rfl, by decide +kernel, rfl, by decide +kernel, by decide +kernel⟩
def d_require_index : DefQ := ⟨fun K => He.ga K "require_index", "require_index", "require_index", defArgs s_require_index, defBody s_require_index, defScope s_require_index⟩
abbrev N_address_in : List Str := ["nodes", "index", "node", "size"]
theorem sc_address_in : FnScope N_address_in ["nodes", "index"] (defScope s_address_in) := ⟨rfl, rfl, rfl, by decide +kernel, rfl, by decide +kernel, by decide +kernel⟩
def d_address_in : DefQ := ⟨fun K => He.ga K "address_in", "address_in", "address_in", defArgs s_address_in, defBody s_address_in, defScope s_address_in⟩
abbrev N_address_at : List Str := ["program", "index"]
theorem sc_address_at : FnScope N_address_at ["program", "index"] (defScope s_address_at) := ⟨rfl, rfl, rfl, by decide +kernel, rfl, by decide +kernel, by decide +kernel⟩
def d_address_at : DefQ := ⟨fun K => He.ga K "address_at", "address_at", "address_at", defArgs s_address_at, defBody s_address_at, defScope s_address_at⟩
abbrev N__law_kettle : List Str := ["script", "k", "cell"]
theorem sc__law_kettle : FnScope N__law_kettle ["script", "k"] (defScope s__law_kettle) := ⟨rfl, rfl, rfl, by decide +kernel, rfl, by decide +kernel, by decide +kernel⟩
def d__law_kettle : DefQ := ⟨fun K => He.ga K "_law_kettle", "_law_kettle", "_law_kettle", defArgs s__law_kettle, defBody s__law_kettle, defScope s__law_kettle⟩
abbrev N__law_scoop : List Str := ["kettle", "many", "found", "mixed"]
theorem sc__law_scoop : FnScope N__law_scoop ["kettle", "many"] (defScope s__law_scoop) := ⟨rfl, rfl, rfl, by decide +kernel, rfl, by decide +kernel, by decide +kernel⟩
def d__law_scoop : DefQ := ⟨fun K => He.ga K "_law_scoop", "_law_scoop", "_law_scoop", defArgs s__law_scoop, defBody s__law_scoop, defScope s__law_scoop⟩
abbrev N__law_scans : List Str := ["nodes", "found", "node"]
theorem sc__law_scans : FnScope N__law_scans ["nodes"] (defScope s__law_scans) := ⟨rfl, rfl, rfl, by decide +kernel, rfl, by decide +kernel, by decide +kernel⟩
def d__law_scans : DefQ := ⟨fun K => He.ga K "_law_scans", "_law_scans", "_law_scans", defArgs s__law_scans, defBody s__law_scans, defScope s__law_scans⟩
abbrev N__law_nodes : List Str := ["kettle", "most", "deep", "wide", "high", "found", "left", "part", "one", "other", "way"]
theorem sc__law_nodes : FnScope N__law_nodes ["kettle", "most", "deep", "wide", "high"] (defScope s__law_nodes) := ⟨rfl, rfl, rfl, by decide +kernel, rfl, by decide +kernel, by decide +kernel⟩
def d__law_nodes : DefQ := ⟨fun K => He.ga K "_law_nodes", "_law_nodes", "_law_nodes", defArgs s__law_nodes, defBody s__law_nodes, defScope s__law_nodes⟩
abbrev N__law_length : List Str := ["nodes", "found", "node"]
theorem sc__law_length : FnScope N__law_length ["nodes"] (defScope s__law_length) := ⟨rfl, rfl, rfl, by decide +kernel, rfl, by decide +kernel, by decide +kernel⟩
def d__law_length : DefQ := ⟨fun K => He.ga K "_law_length", "_law_length", "_law_length", defArgs s__law_length, defBody s__law_length, defScope s__law_length⟩
abbrev N__law_small : List Str := ["kettle", "most", "deep", "wide", "limit", "found"]
theorem sc__law_small : FnScope N__law_small ["kettle", "most", "deep", "wide", "limit"] (defScope s__law_small) := ⟨rfl, rfl, rfl, by decide +kernel, rfl, by decide +kernel, by decide +kernel⟩
def d__law_small : DefQ := ⟨fun K => He.ga K "_law_small", "_law_small", "_law_small", defArgs s__law_small, defBody s__law_small, defScope s__law_small⟩
abbrev N__law_words : List Str := ["nodes", "found", "node"]
theorem sc__law_words : FnScope N__law_words ["nodes"] (defScope s__law_words) := ⟨rfl, rfl, rfl, by decide +kernel, rfl, by decide +kernel, by decide +kernel⟩
def d__law_words : DefQ := ⟨fun K => He.ga K "_law_words", "_law_words", "_law_words", defArgs s__law_words, defBody s__law_words, defScope s__law_words⟩
abbrev N__law_made : List Str := ["nodes"]
theorem sc__law_made : FnScope N__law_made ["nodes"] (defScope s__law_made) := ⟨rfl, rfl, rfl, by decide +kernel, rfl, by decide +kernel, by decide +kernel⟩
def d__law_made : DefQ := ⟨fun K => He.ga K "_law_made", "_law_made", "_law_made", defArgs s__law_made, defBody s__law_made, defScope s__law_made⟩
abbrev N__law_reads : List Str := ["nodes", "found", "node", "step", "spot"]
theorem sc__law_reads : FnScope N__law_reads ["nodes"] (defScope s__law_reads) := ⟨rfl, rfl, rfl, by decide +kernel, rfl, by decide +kernel, by decide +kernel⟩
def d__law_reads : DefQ := ⟨fun K => He.ga K "_law_reads", "_law_reads", "_law_reads", defArgs s__law_reads, defBody s__law_reads, defScope s__law_reads⟩
abbrev N__law_few : List Str := ["kettle", "many", "low", "turn"]
theorem sc__law_few : FnScope N__law_few ["kettle", "many", "low"] (defScope s__law_few) := ⟨rfl, rfl, rfl, by decide +kernel, rfl, by decide +kernel, by decide +kernel⟩
def d__law_few : DefQ := ⟨fun K => He.ga K "_law_few", "_law_few", "_law_few", defArgs s__law_few, defBody s__law_few, defScope s__law_few⟩
abbrev N__law_wide : List Str := ["kettle", "nodes", "turn"]
theorem sc__law_wide : FnScope N__law_wide ["kettle"] (defScope s__law_wide) := ⟨rfl, rfl, rfl, by decide +kernel, rfl, by decide +kernel, by decide +kernel⟩
def d__law_wide : DefQ := ⟨fun K => He.ga K "_law_wide", "_law_wide", "_law_wide", defArgs s__law_wide, defBody s__law_wide, defScope s__law_wide⟩
abbrev N_law : List Str := ["script", "k", "kettle", "turn", "nodes", "program", "due", "told", "spot", "some"]
theorem sc_law : FnScope N_law ["script"] (defScope s_law) := ⟨rfl, rfl, rfl, by decide +kernel, rfl, by decide +kernel, by decide +kernel⟩
def d_law : DefQ := ⟨fun K => He.ga K "law", "law", "law", defArgs s_law, defBody s_law, defScope s_law⟩
def fn : List DefQ := [d_is_int, d_in_range, d_number_in, d_scan_in, d_read_nodes, d_Nodes___init__, d_Program___init__, d_size_of, d_accesses_in, d_Program_accesses, d_Program___eq__, d_require_program, d_step_of, d_listed, d_written, d_require_index, d_address_in, d_address_at, d__law_kettle, d__law_scoop, d__law_scans, d__law_nodes, d__law_length, d__law_small, d__law_words, d__law_made, d__law_reads, d__law_few, d__law_wide, d_law]
def fa : List He.Fa := [.cls "Nodes", .noat "Nodes" "held", .glo "Nodes", .cls "Program", .noat "Program" "own_nodes", .glo "Program", .mkr "Program", .glo "is_int", .glo "in_range", .glo "number_in", .glo "scan_in", .glo "read_nodes", .glo "size_of", .glo "accesses_in", .glo "require_program", .glo "step_of", .glo "listed", .glo "written", .glo "require_index", .glo "address_in", .glo "address_at", .glo "_law_kettle", .glo "_law_scoop", .glo "_law_scans", .glo "_law_nodes", .glo "_law_length", .glo "_law_small", .glo "_law_words", .glo "_law_made", .glo "_law_reads", .glo "_law_few", .glo "_law_wide", .glo "law", .free "isinstance", .free "bool", .free "int", .free "all", .free "len", .free "str", .free "abs", .free "range", .free "max", .free "min", .free "repr", .free "list", .int "MOST_NUMBER" 1000000000000000000000000000000, .int "MOST_OPEN" 5, .int "MOST_SCANS" 40, .int "MOST_WRITTEN" 10000]
def pr : List PrD := [⟨"Program", "accesses"⟩]
def op : List OpD := [⟨"Program", "__eq__"⟩]
def bn : List BnD := []
def xf : List XF := [.ne "Program", .isi "Nodes" [("Nodes", true), ("Program", false)], .ins "Nodes", .ins "Program", .isi "Program" [("Nodes", false), ("Program", true)]]
def tab_Nodes : List (Nat × Bool) := [(0, true), (1, false)]
def tab_Program : List (Nat × Bool) := [(0, false), (1, true)]
def CN (c : Nat) : Str := (["Nodes", "Program"] : List Str).getD c ""
def NMf (c : Nat) : List Str := ([["held"], ["own_nodes"]] : List (List Str)).getD c []
abbrev TT (K : PySem.W.Frag) : Tab := ⟨fun c => He.ga K (CN c), NMf⟩
/-! ### what each def computes -/
noncomputable def B_is_int : SM :=
  (retS fun ρ => (andE (isiE tabInt (rd ρ 0)) (notE (isiE (tabIs "bool") (rd ρ 0)))))
noncomputable def g_is_int : List D → M D := bodyD 1 B_is_int
noncomputable def B_in_range : SM :=
  (retS fun ρ => (andE (callE 1 g_is_int (consM (rd ρ 0) nilA)) (andE (b2 dLe (rd ρ 1) (rd ρ 0)) (orE (b2 dIs (rd ρ 2) (kon .non)) (b2 dLe (rd ρ 0) (rd ρ 2))))))
noncomputable def g_in_range : List D → M D := bodyD 3 B_in_range
noncomputable def B_number_in : SM :=
  (seqS (ifS (fun ρ => (orM (b2T dEq (rd ρ 0) (kon (.str ""))) (orM (b2T dGt (cbE dLen (consM (rd ρ 0) nilA)) (kon (.int 31))) (notT (valT (cbE dAll (consM (frzE (lcL (itS (rd ρ 0)) (.nm 2) (fun ρ => yesM) (fun ρ => (b2 dInU (rd ρ 2) (kon (.str "0123456789")))) ρ [2])) nilA))))))) (retS fun ρ => (kon .non)) nxS)
    (seqS (ifS (fun ρ => (andM (b2T dEq (b2 ixD (rd ρ 0) (kon (.int 0))) (kon (.str "0"))) (b2T dNe (rd ρ 0) (kon (.str "0"))))) (retS fun ρ => (kon .non)) nxS)
    (retS fun ρ => (ifE (valT (callE 3 g_in_range (consM (cbE dIntU (consM (rd ρ 0) nilA)) (consM (rd ρ 1) (consM (kon (.int 1000000000000000000000000000000)) nilA))))) (cbE dIntU (consM (rd ρ 0) nilA)) (kon .non)))))
noncomputable def g_number_in : List D → M D := bodyD 3 B_number_in
noncomputable def B_scan_in : SM :=
  (seqS (ifS (fun ρ => (b2T dNotInU (kon (.str "-")) (rd ρ 0))) (seqS (setS 1 fun ρ => (callE 2 g_number_in (consM (rd ρ 0) (consM (kon (.int 0)) nilA))))
    (retS fun ρ => (ifE (b2T dIs (rd ρ 1) (kon .non)) (kon .non) (tupE (consM (rd ρ 1) (consM (rd ρ 1) nilA)))))) nxS)
    (seqS (setS 2 fun ρ => (frzE (mthL_ "str" mSplit (rd ρ 0) (consM (kon (.str "-")) nilA))))
    (seqS (setS 3 fun ρ => (frzE (lcL (itS (rd ρ 2)) (.nm 4) (fun ρ => yesM) (fun ρ => (callE 2 g_number_in (consM (rd ρ 4) (consM (kon (.int 0)) nilA)))) ρ [4])))
    (seqS (ifS (fun ρ => (orM (b2T dNe (cbE dLen (consM (rd ρ 2) nilA)) (kon (.int 2))) (orM (b2T dInU (kon .non) (rd ρ 3)) (b2T dEq (b2 ixD (rd ρ 3) (kon (.int 0))) (b2 ixD (rd ρ 3) (kon (.int 1))))))) (retS fun ρ => (kon .non)) nxS)
    (retS fun ρ => (tupE (consM (b2 ixD (rd ρ 3) (kon (.int 0))) (consM (b2 ixD (rd ρ 3) (kon (.int 1))) nilA))))))))
noncomputable def g_scan_in : List D → M D := bodyD 5 B_scan_in
noncomputable def L1_read_nodes (hh : List D → M D) : SM :=
  (seqS (setS 6 fun ρ => (b2 ixD (rd ρ 0) (rd ρ 5)))
    (ifS (fun ρ => (b2T dEq (rd ρ 6) (kon (.str "(")))) (seqS (ifS (fun ρ => (b2T dEq (rd ρ 2) (kon (.int 5)))) stkS nxS)
    (seqS (asgD (fun ρ => (callE 4 hh (consM (rd ρ 0) (consM (b2 dAdd (rd ρ 5) (kon (.int 1))) (consM (b2 dAdd (rd ρ 2) (kon (.int 1))) (consM (rd ρ 3) nilA)))))) (.tp [(.nm 7), (.nm 8), (.nm 3)]))
    (seqS (setS 4 fun ρ => (b2 dAdd (rd ρ 4) (tupE (consM (tupE (consM (kon (.str "repeat")) (consM (rd ρ 7) (consM (cbE dIntU (consM (slE (b2 ixD (rd ρ 0) (rd ρ 8)) (smO (kon (.int 1))) noO) nilA)) nilA)))) nilA))))
    (setS 5 fun ρ => (b2 dAdd (rd ρ 8) (kon (.int 1))))))) (ifS (fun ρ => (b2T dEq (slE (rd ρ 6) noO (smO (kon (.int 1)))) (kon (.str ")")))) (seqS (ifS (fun ρ => (orM (b2T dEq (rd ρ 2) (kon (.int 0))) (orM (b2T dEq (rd ρ 4) (tupE nilA)) (b2T dIs (callE 2 g_number_in (consM (slE (rd ρ 6) (smO (kon (.int 1))) noO) (consM (kon (.int 2)) nilA))) (kon .non))))) stkS nxS)
    (retS fun ρ => (tupE (consM (rd ρ 4) (consM (rd ρ 5) (consM (rd ρ 3) nilA)))))) (seqS (setS 9 fun ρ => (callE 1 g_scan_in (consM (rd ρ 6) nilA)))
    (seqS (ifS (fun ρ => (orM (b2T dIs (rd ρ 9) (kon .non)) (b2T dEq (rd ρ 3) (kon (.int 40))))) stkS nxS)
    (seqS (setS 4 fun ρ => (b2 dAdd (rd ρ 4) (tupE (consM (tupE (consM (kon (.str "scan")) (consM (b2 ixD (rd ρ 9) (kon (.int 0))) (consM (b2 ixD (rd ρ 9) (kon (.int 1))) nilA)))) nilA))))
    (seqS (setS 3 fun ρ => (b2 dAdd (rd ρ 3) (kon (.int 1))))
    (setS 5 fun ρ => (b2 dAdd (rd ρ 5) (kon (.int 1)))))))))))
noncomputable def B_read_nodes (hh : List D → M D) : SM :=
  (seqS (setS 4 fun ρ => (tupE nilA))
    (seqS (setS 5 fun ρ => (rd ρ 1))
    (seqS (whileW (fun ρ => (b2T dLt (rd ρ 5) (cbE dLen (consM (rd ρ 0) nilA)))) (L1_read_nodes hh))
    (seqS (ifS (fun ρ => (b2T dGt (rd ρ 2) (kon (.int 0)))) stkS nxS)
    (retS fun ρ => (tupE (consM (rd ρ 4) (consM (rd ρ 5) (consM (rd ρ 3) nilA)))))))))
noncomputable def gS_read_nodes (hh : List D → M D) : List D → M D := bodyD 10 (B_read_nodes hh)
noncomputable def g_read_nodes : Nat → List D → M D
  | 0 => fun _ => stuck
  | n + 1 => gS_read_nodes (g_read_nodes n)
noncomputable def B_Nodes___init__ : SM :=
  (fldS [0] "held" (fun ρ => (rd ρ 1)) (fun ρ => (rd ρ 0)))
noncomputable def g_Nodes___init__ : List D → M D := bodyD 2 B_Nodes___init__
noncomputable def B_Program___init__ : SM :=
  (ifS (fun ρ => (valT (isiCE tab_Nodes (rd ρ 1)))) (fldS [1] "own_nodes" (fun ρ => (fldM NMf [0] "held" (rd ρ 1))) (fun ρ => (rd ρ 0))) (ifS (fun ρ => (valT (isiE (tabIs "str") (rd ρ 1)))) (fldS [1] "own_nodes" (fun ρ => (b2 ixD (callE 4 (g_read_nodes 8) (consM (ifE (b2T dNe (rd ρ 1) (kon (.str ""))) (frzE (mthL_ "str" mSplit (rd ρ 1) (consM (kon (.str " ")) nilA))) (frzE (lstE nilA))) (consM (kon (.int 0)) (consM (kon (.int 0)) (consM (kon (.int 0)) nilA))))) (kon (.int 0)))) (fun ρ => (rd ρ 0))) stkS))
noncomputable def g_Program___init__ : List D → M D := bodyD 2 B_Program___init__
noncomputable def B_size_of : SM :=
  (retS fun ρ => (b2 dAdd (cbE dAbs (consM (b2 dSub (b2 ixD (rd ρ 0) (kon (.int 1))) (b2 ixD (rd ρ 0) (kon (.int 0)))) nilA)) (kon (.int 1))))
noncomputable def g_size_of : List D → M D := bodyD 1 B_size_of
noncomputable def L1_accesses_in (hh : List D → M D) : SM :=
  (setS 1 fun ρ => (b2 dAdd (rd ρ 1) (ifE (b2T dEq (b2 ixD (rd ρ 2) (kon (.int 0))) (kon (.str "repeat"))) (b2 dMul (callE 1 hh (consM (b2 ixD (rd ρ 2) (kon (.int 1))) nilA)) (b2 ixD (rd ρ 2) (kon (.int 2)))) (callE 1 g_size_of (consM (slE (rd ρ 2) (smO (kon (.int 1))) noO) nilA)))))
noncomputable def B_accesses_in (hh : List D → M D) : SM :=
  (seqS (setS 1 fun ρ => (kon (.int 0)))
    (seqS (forS (fun ρ => (itS (rd ρ 0))) (.nm 2) (L1_accesses_in hh))
    (retS fun ρ => (rd ρ 1))))
noncomputable def gS_accesses_in (hh : List D → M D) : List D → M D := bodyD 3 (B_accesses_in hh)
noncomputable def g_accesses_in : Nat → List D → M D
  | 0 => fun _ => stuck
  | n + 1 => gS_accesses_in (g_accesses_in n)
noncomputable def B_Program_accesses : SM :=
  (retS fun ρ => (callE 1 (g_accesses_in 8) (consM (fldM NMf [1] "own_nodes" (rd ρ 0)) nilA)))
noncomputable def g_Program_accesses : List D → M D := bodyD 1 B_Program_accesses
noncomputable def B_Program___eq__ : SM :=
  (retS fun ρ => (andE (isiCE tab_Program (rd ρ 1)) (b2 dEq (fldM NMf [1] "own_nodes" (rd ρ 0)) (fldM NMf [1] "own_nodes" (rd ρ 1)))))
noncomputable def g_Program___eq__ : List D → M D := bodyD 2 B_Program___eq__
noncomputable def B_require_program : SM :=
  (ifS (fun ρ => (notT (valT (isiCE tab_Program (rd ρ 0))))) stkS nxS)
noncomputable def g_require_program : List D → M D := bodyD 1 B_require_program
noncomputable def B_step_of : SM :=
  (retS fun ρ => (ifE (b2T dLe (b2 ixD (rd ρ 0) (kon (.int 0))) (b2 ixD (rd ρ 0) (kon (.int 1)))) (kon (.int 1)) (b1 dNeg (kon (.int 1)))))
noncomputable def g_step_of : List D → M D := bodyD 1 B_step_of
noncomputable def L1_listed (hh : List D → M (List D)) : SM :=
  (ifS (fun ρ => (b2T dEq (b2 ixD (rd ρ 2) (kon (.int 0))) (kon (.str "scan")))) (seqS (setS 3 fun ρ => (slE (rd ρ 2) (smO (kon (.int 1))) noO))
    (expS fun ρ => (mthE "list" mExtend (rd ρ 1) (consM (frzE (lcL (itR1 (consM (callE 1 g_size_of (consM (rd ρ 3) nilA)) nilA)) (.nm 4) (fun ρ => yesM) (fun ρ => (b2 dAdd (b2 ixD (rd ρ 3) (kon (.int 0))) (b2 dMul (callE 1 g_step_of (consM (rd ρ 3) nilA)) (rd ρ 4)))) ρ [4])) nilA)))) (expS fun ρ => (mthE "list" mExtend (rd ρ 1) (consM (frzE (repL_ (callL 1 hh (consM (b2 ixD (rd ρ 2) (kon (.int 1))) nilA)) (b2 ixD (rd ρ 2) (kon (.int 2))))) nilA))))
noncomputable def B_listed (hh : List D → M (List D)) : SM :=
  (seqS (setS 1 fun ρ => (celE (lstE nilA)))
    (seqS (forS (fun ρ => (itS (rd ρ 0))) (.nm 2) (L1_listed hh))
    (retS fun ρ => (rd ρ 1))))
noncomputable def gS_listed (hh : List D → M (List D)) : List D → M (List D) := bodyL 5 (B_listed hh)
noncomputable def g_listed : Nat → List D → M (List D)
  | 0 => fun _ => stuck
  | n + 1 => gS_listed (g_listed n)
noncomputable def B_written : SM :=
  (seqS (expS fun ρ => (callE 1 g_require_program (consM (rd ρ 0) nilA)))
    (seqS (ifS (fun ρ => (b2T dGt (mt0E NMf 1 "accesses" 1 g_Program_accesses (rd ρ 0)) (kon (.int 10000)))) stkS nxS)
    (retS fun ρ => (celE (callL 1 (g_listed 8) (consM (fldM NMf [1] "own_nodes" (rd ρ 0)) nilA))))))
noncomputable def g_written : List D → M (List D) := bodyL 1 B_written
noncomputable def B_require_index : SM :=
  (ifS (fun ρ => (notT (valT (callE 3 g_in_range (consM (rd ρ 0) (consM (kon (.int 0)) (consM (b2 dSub (rd ρ 1) (kon (.int 1))) nilA))))))) stkS nxS)
noncomputable def g_require_index : List D → M D := bodyD 2 B_require_index
noncomputable def L1_address_in (hh : List D → M D) : SM :=
  (seqS (setS 3 fun ρ => (callE 1 (g_accesses_in 8) (consM (tupE (consM (rd ρ 2) nilA)) nilA)))
    (seqS (ifS (fun ρ => (andM (b2T dLt (rd ρ 1) (rd ρ 3)) (b2T dEq (b2 ixD (rd ρ 2) (kon (.int 0))) (kon (.str "scan"))))) (retS fun ρ => (b2 dAdd (b2 ixD (rd ρ 2) (kon (.int 1))) (b2 dMul (callE 1 g_step_of (consM (slE (rd ρ 2) (smO (kon (.int 1))) noO) nilA)) (rd ρ 1)))) nxS)
    (seqS (ifS (fun ρ => (b2T dLt (rd ρ 1) (rd ρ 3))) (retS fun ρ => (callE 2 hh (consM (b2 ixD (rd ρ 2) (kon (.int 1))) (consM (b2 dMod (rd ρ 1) (callE 1 (g_accesses_in 8) (consM (b2 ixD (rd ρ 2) (kon (.int 1))) nilA))) nilA)))) nxS)
    (augS 1 dSub fun ρ => (rd ρ 3)))))
noncomputable def B_address_in (hh : List D → M D) : SM :=
  (seqS (forS (fun ρ => (itS (rd ρ 0))) (.nm 2) (L1_address_in hh))
    (retS fun ρ => (kon .non)))
noncomputable def gS_address_in (hh : List D → M D) : List D → M D := bodyD 4 (B_address_in hh)
noncomputable def g_address_in : Nat → List D → M D
  | 0 => fun _ => stuck
  | n + 1 => gS_address_in (g_address_in n)
noncomputable def B_address_at : SM :=
  (seqS (expS fun ρ => (callE 1 g_require_program (consM (rd ρ 0) nilA)))
    (seqS (expS fun ρ => (callE 2 g_require_index (consM (rd ρ 1) (consM (mt0E NMf 1 "accesses" 1 g_Program_accesses (rd ρ 0)) nilA))))
    (retS fun ρ => (callE 2 (g_address_in 8) (consM (fldM NMf [1] "own_nodes" (rd ρ 0)) (consM (rd ρ 1) nilA))))))
noncomputable def g_address_at : List D → M D := bodyD 2 B_address_at
noncomputable def B__law_kettle : SM :=
  (seqS (setS 2 fun ρ => (kon (.int 0)))
    (seqS (ifS (fun ρ => (b2T dLt (rd ρ 1) (cbE dLen (consM (rd ρ 0) nilA)))) (setS 2 fun ρ => (b2 ixD (rd ρ 0) (rd ρ 1))) nxS)
    (retS fun ρ => (celE (lstE (consM (cbE dMax2 (consM (kon (.int 0)) (consM (b2 dSub (rd ρ 2) (b2 dPow (kon (.int 10)) (kon (.int 18)))) nilA))) (consM (b2 dAdd (b2 dAdd (b2 dMul (b2 dMod (cbE dIntU (consM (rd ρ 2) nilA)) (b2 dAdd (b2 dPow (kon (.int 10)) (kon (.int 38))) (kon (.int 133)))) (kon (.int 167))) (b2 dMul (kon (.int 80021)) (rd ρ 1))) (kon (.int 13))) (consM (kon (.int 0)) nilA))))))))
noncomputable def g__law_kettle : List D → M (List D) := bodyL 3 B__law_kettle
noncomputable def B__law_scoop : SM :=
  (seqS (ifS (fun ρ => (b2T dGt (b2 ixD (rd ρ 0) (kon (.int 0))) (kon (.int 0)))) (seqS (setS 2 fun ρ => (b2 dMod (cbE dIntU (consM (b2 ixD (rd ρ 0) (kon (.int 0))) nilA)) (rd ρ 1)))
    (seqS (stoS (fun ρ => (b2 dDiv (cbE dIntU (consM (b2 ixD (rd ρ 0) (kon (.int 0))) nilA)) (rd ρ 1))) (fun ρ => (rd ρ 0)) fun ρ => (kon (.int 0)))
    (retS fun ρ => (rd ρ 2)))) nxS)
    (seqS (stoS (fun ρ => (b2 dAdd (b2 ixD (rd ρ 0) (kon (.int 2))) (kon (.int 1)))) (fun ρ => (rd ρ 0)) fun ρ => (kon (.int 2)))
    (seqS (setS 3 fun ρ => (b2 dMod (cbE dIntU (consM (b2 dPow (b2 dAdd (b2 ixD (rd ρ 0) (kon (.int 1))) (b2 dMul (kon (.int 49979687)) (b2 ixD (rd ρ 0) (kon (.int 2))))) (kon (.int 3))) nilA)) (b2 dAdd (b2 dPow (kon (.int 10)) (kon (.int 44))) (kon (.int 31)))))
    (seqS (setS 3 fun ρ => (b2 dMod (cbE dIntU (consM (b2 dPow (b2 dAdd (rd ρ 3) (b2 dMul (kon (.int 86028157)) (b2 ixD (rd ρ 0) (kon (.int 2))))) (kon (.int 3))) nilA)) (b2 dAdd (b2 dPow (kon (.int 10)) (kon (.int 42))) (kon (.int 63)))))
    (retS fun ρ => (b2 dMod (cbE dIntU (consM (b2 dDiv (rd ρ 3) (kon (.int 524287))) nilA)) (rd ρ 1)))))))
noncomputable def g__law_scoop : List D → M D := bodyD 4 B__law_scoop
noncomputable def L1__law_scans (hh : List D → M D) : SM :=
  (setS 1 fun ρ => (b2 dAdd (rd ρ 1) (ifE (b2T dEq (b2 ixD (rd ρ 2) (kon (.int 0))) (kon (.str "again"))) (callE 1 hh (consM (b2 ixD (rd ρ 2) (kon (.int 1))) nilA)) (frzE (lstE (consM (slE (rd ρ 2) (smO (kon (.int 1))) noO) nilA))))))
noncomputable def B__law_scans (hh : List D → M D) : SM :=
  (seqS (setS 1 fun ρ => (frzE (lstE nilA)))
    (seqS (forS (fun ρ => (itS (rd ρ 0))) (.nm 2) (L1__law_scans hh))
    (retS fun ρ => (rd ρ 1))))
noncomputable def gS__law_scans (hh : List D → M D) : List D → M D := bodyD 3 (B__law_scans hh)
noncomputable def g__law_scans : Nat → List D → M D
  | 0 => fun _ => stuck
  | n + 1 => gS__law_scans (g__law_scans n)
noncomputable def L1__law_nodes (hh : List D → M D) : SM :=
  (ifS (fun ρ => (andM (b2T dGt (rd ρ 2) (kon (.int 0))) (b2T dEq (callE 2 g__law_scoop (consM (rd ρ 0) (consM (kon (.int 4)) nilA))) (kon (.int 0))))) (seqS (setS 7 fun ρ => (callE 5 hh (consM (rd ρ 0) (consM (rd ρ 6) (consM (b2 dSub (rd ρ 2) (kon (.int 1))) (consM (rd ρ 3) (consM (rd ρ 4) nilA)))))))
    (seqS (expS fun ρ => (mthE "list" mAppend (rd ρ 5) (consM (tupE (consM (kon (.str "again")) (consM (rd ρ 7) (consM (b2 dAdd (kon (.int 2)) (callE 2 g__law_scoop (consM (rd ρ 0) (consM (rd ρ 4) nilA)))) nilA)))) nilA)))
    (setS 6 fun ρ => (b2 dSub (rd ρ 6) (cbE dLen (consM (callE 1 (g__law_scans 8) (consM (rd ρ 7) nilA)) nilA)))))) (seqS (par3S 8 9 10 fun ρ => (consM (callE 2 g__law_scoop (consM (rd ρ 0) (consM (rd ρ 3) nilA))) (consM (callE 2 g__law_scoop (consM (rd ρ 0) (consM (rd ρ 3) nilA))) (consM (callE 2 g__law_scoop (consM (rd ρ 0) (consM (kon (.int 5)) nilA))) nilA))))
    (seqS (expS fun ρ => (mthE "list" mAppend (rd ρ 5) (consM (tupE (consM (kon (.str "scan")) (consM (rd ρ 8) (consM (b2 ixD (frzE (lstE (consM (rd ρ 9) (consM (rd ρ 9) (consM (rd ρ 9) (consM (rd ρ 8) (consM (cbE dMin2 (consM (b2 dSub (rd ρ 3) (kon (.int 1))) (consM (b2 dAdd (rd ρ 8) (kon (.int 1))) nilA))) nilA))))))) (rd ρ 10)) nilA)))) nilA)))
    (setS 6 fun ρ => (b2 dSub (rd ρ 6) (kon (.int 1)))))))
noncomputable def B__law_nodes (hh : List D → M D) : SM :=
  (seqS (parS 5 6 fun ρ => (consM (celE (lstE nilA)) (consM (b2 dAdd (kon (.int 1)) (callE 2 g__law_scoop (consM (rd ρ 0) (consM (rd ρ 1) nilA)))) nilA)))
    (seqS (whileW (fun ρ => (b2T dGt (rd ρ 6) (kon (.int 0)))) (L1__law_nodes hh))
    (retS fun ρ => (rd ρ 5))))
noncomputable def gS__law_nodes (hh : List D → M D) : List D → M D := bodyD 11 (B__law_nodes hh)
noncomputable def g__law_nodes : Nat → List D → M D
  | 0 => fun _ => stuck
  | n + 1 => gS__law_nodes (g__law_nodes n)
noncomputable def L1__law_length (hh : List D → M D) : SM :=
  (ifS (fun ρ => (b2T dEq (b2 ixD (rd ρ 2) (kon (.int 0))) (kon (.str "again")))) (setS 1 fun ρ => (b2 dAdd (rd ρ 1) (b2 dMul (callE 1 hh (consM (b2 ixD (rd ρ 2) (kon (.int 1))) nilA)) (b2 ixD (rd ρ 2) (kon (.int 2)))))) (setS 1 fun ρ => (b2 dAdd (b2 dAdd (rd ρ 1) (cbE dAbs (consM (b2 dSub (b2 ixD (rd ρ 2) (kon (.int 2))) (b2 ixD (rd ρ 2) (kon (.int 1)))) nilA))) (kon (.int 1)))))
noncomputable def B__law_length (hh : List D → M D) : SM :=
  (seqS (setS 1 fun ρ => (kon (.int 0)))
    (seqS (forS (fun ρ => (itS (rd ρ 0))) (.nm 2) (L1__law_length hh))
    (retS fun ρ => (rd ρ 1))))
noncomputable def gS__law_length (hh : List D → M D) : List D → M D := bodyD 3 (B__law_length hh)
noncomputable def g__law_length : Nat → List D → M D
  | 0 => fun _ => stuck
  | n + 1 => gS__law_length (g__law_length n)
noncomputable def L1__law_small : SM :=
  (setS 5 fun ρ => (ifE (b2T dGt (cbE dLen (consM (rd ρ 5) nilA)) (kon (.int 1))) (slE (rd ρ 5) noO (smO (b1 dNeg (kon (.int 1))))) (frzE (lstE (consM (tupE (consM (kon (.str "scan")) (consM (kon (.int 0)) (consM (cbE dMin2 (consM (b2 dSub (rd ρ 3) (kon (.int 1))) (consM (kon (.int 3)) nilA))) nilA)))) nilA)))))
noncomputable def B__law_small : SM :=
  (seqS (setS 5 fun ρ => (callE 5 (g__law_nodes 8) (consM (rd ρ 0) (consM (rd ρ 1) (consM (rd ρ 2) (consM (rd ρ 3) (consM (kon (.int 3)) nilA)))))))
    (seqS (whileW (fun ρ => (b2T dGt (callE 1 (g__law_length 8) (consM (rd ρ 5) nilA)) (rd ρ 4))) L1__law_small)
    (retS fun ρ => (rd ρ 5))))
noncomputable def g__law_small : List D → M D := bodyD 6 B__law_small
noncomputable def L1__law_words (hh : List D → M D) : SM :=
  (ifS (fun ρ => (b2T dEq (b2 ixD (rd ρ 2) (kon (.int 0))) (kon (.str "again")))) (setS 1 fun ρ => (celE (b2L catL (b2 dAdd (b2 dAdd (rd ρ 1) (frzE (lstE (consM (kon (.str "(")) nilA)))) (callE 1 hh (consM (b2 ixD (rd ρ 2) (kon (.int 1))) nilA))) (frzE (lstE (consM (b2 dAdd (kon (.str ")")) (cbE dStr (consM (b2 ixD (rd ρ 2) (kon (.int 2))) nilA))) nilA)))))) (expS fun ρ => (mthE "list" mAppend (rd ρ 1) (consM (b2 dAdd (cbE dStr (consM (b2 ixD (rd ρ 2) (kon (.int 1))) nilA)) (ifE (b2T dNe (b2 ixD (rd ρ 2) (kon (.int 1))) (b2 ixD (rd ρ 2) (kon (.int 2)))) (b2 dAdd (kon (.str "-")) (cbE dStr (consM (b2 ixD (rd ρ 2) (kon (.int 2))) nilA))) (kon (.str "")))) nilA))))
noncomputable def B__law_words (hh : List D → M D) : SM :=
  (seqS (setS 1 fun ρ => (celE (lstE nilA)))
    (seqS (forS (fun ρ => (itS (rd ρ 0))) (.nm 2) (L1__law_words hh))
    (retS fun ρ => (rd ρ 1))))
noncomputable def gS__law_words (hh : List D → M D) : List D → M D := bodyD 3 (B__law_words hh)
noncomputable def g__law_words : Nat → List D → M D
  | 0 => fun _ => stuck
  | n + 1 => gS__law_words (g__law_words n)
noncomputable def B__law_made : SM :=
  (retS fun ρ => (makeE NMf 1 2 g_Program___init__ (consM (mthE "str" mJoin (kon (.str " ")) (consM (callE 1 (g__law_words 8) (consM (rd ρ 0) nilA)) nilA)) nilA)))
noncomputable def g__law_made : List D → M D := bodyD 1 B__law_made
noncomputable def L1__law_reads (hh : List D → M (List D)) : SM :=
  (ifS (fun ρ => (b2T dEq (b2 ixD (rd ρ 2) (kon (.int 0))) (kon (.str "again")))) (setS 1 fun ρ => (celE (b2L catL (rd ρ 1) (frzE (repL_ (callL 1 hh (consM (b2 ixD (rd ρ 2) (kon (.int 1))) nilA)) (b2 ixD (rd ρ 2) (kon (.int 2)))))))) (seqS (setS 3 fun ρ => (ifE (b2T dLe (b2 ixD (rd ρ 2) (kon (.int 1))) (b2 ixD (rd ρ 2) (kon (.int 2)))) (kon (.int 1)) (b1 dNeg (kon (.int 1)))))
    (setS 1 fun ρ => (celE (b2L catL (rd ρ 1) (frzE (lcL (itR1 (consM (b2 dAdd (cbE dAbs (consM (b2 dSub (b2 ixD (rd ρ 2) (kon (.int 2))) (b2 ixD (rd ρ 2) (kon (.int 1)))) nilA)) (kon (.int 1))) nilA)) (.nm 4) (fun ρ => yesM) (fun ρ => (b2 dAdd (b2 ixD (rd ρ 2) (kon (.int 1))) (b2 dMul (rd ρ 3) (rd ρ 4)))) ρ [4])))))))
noncomputable def B__law_reads (hh : List D → M (List D)) : SM :=
  (seqS (setS 1 fun ρ => (celE (lstE nilA)))
    (seqS (forS (fun ρ => (itS (rd ρ 0))) (.nm 2) (L1__law_reads hh))
    (retS fun ρ => (rd ρ 1))))
noncomputable def gS__law_reads (hh : List D → M (List D)) : List D → M (List D) := bodyL 5 (B__law_reads hh)
noncomputable def g__law_reads : Nat → List D → M (List D)
  | 0 => fun _ => stuck
  | n + 1 => gS__law_reads (g__law_reads n)
noncomputable def B__law_few : SM :=
  (retS fun ρ => (frzE (lcL (itR1 (consM (rd ρ 1) nilA)) (.nm 3) (fun ρ => yesM) (fun ρ => (tupE (consM (kon (.str "scan")) (consM (b2 dAdd (rd ρ 2) (callE 2 g__law_scoop (consM (rd ρ 0) (consM (kon (.int 6)) nilA)))) (consM (b2 dAdd (rd ρ 2) (callE 2 g__law_scoop (consM (rd ρ 0) (consM (kon (.int 6)) nilA)))) nilA))))) ρ [3])))
noncomputable def g__law_few : List D → M D := bodyD 4 B__law_few
noncomputable def L1__law_wide : SM :=
  (setS 1 fun ρ => (b2 dAdd (frzE (lstE (consM (tupE (consM (kon (.str "again")) (consM (rd ρ 1) (consM (kon (.int 2)) nilA)))) nilA))) (callE 3 g__law_few (consM (rd ρ 0) (consM (kon (.int 8)) (consM (kon (.int 0)) nilA))))))
noncomputable def B__law_wide : SM :=
  (seqS (setS 1 fun ρ => (callE 3 g__law_few (consM (rd ρ 0) (consM (kon (.int 8)) (consM (kon (.int 0)) nilA)))))
    (seqS (forS (fun ρ => (itR1 (consM (kon (.int 4)) nilA))) (.nm 2) L1__law_wide)
    (retS fun ρ => (frzE (lstE (consM (tupE (consM (kon (.str "again")) (consM (rd ρ 1) (consM (kon (.int 2)) nilA)))) nilA))))))
noncomputable def g__law_wide : List D → M D := bodyD 3 B__law_wide
noncomputable def L1_law : SM :=
  (seqS (setS 4 fun ρ => (callE 5 g__law_small (consM (rd ρ 2) (consM (b2 ixD (frzE (lstE (consM (kon (.int 3)) (consM (kon (.int 9)) nilA)))) (callE 2 g__law_scoop (consM (rd ρ 2) (consM (kon (.int 2)) nilA)))) (consM (kon (.int 3)) (consM (b2 ixD (frzE (lstE (consM (kon (.int 5)) (consM (kon (.int 16)) nilA)))) (callE 2 g__law_scoop (consM (rd ρ 2) (consM (kon (.int 2)) nilA)))) (consM (kon (.int 300)) nilA)))))))
    (seqS (asgD (fun ρ => (tupE (consM (callE 1 g__law_made (consM (rd ρ 4) nilA)) (consM (frzE (callL 1 (g__law_reads 8) (consM (rd ρ 4) nilA))) nilA)))) (.tp [(.nm 5), (.nm 6)]))
    (seqS (setS 7 fun ρ => (celE (callL 1 g_written (consM (rd ρ 5) nilA))))
    (seqS (ifS (fun ρ => (b2T dNe (cbE reprD (consM (rd ρ 7) nilA)) (cbE reprD (consM (rd ρ 6) nilA)))) (retS fun ρ => (kon (.bl false))) nxS)
    (seqS (expS fun ρ => (mthE "list" mAppend (rd ρ 7) (consM (kon (.int 0)) nilA)))
    (seqS (ifS (fun ρ => (orM (b2T dNe (frzE (callL 1 g_written (consM (rd ρ 5) nilA))) (rd ρ 6)) (orM (b2T dNe (mt0E NMf 1 "accesses" 1 g_Program_accesses (rd ρ 5)) (cbE dLen (consM (rd ρ 6) nilA))) (b2MT (neOwn 1 g_Program___eq__) (rd ρ 5) (callE 1 g__law_made (consM (rd ρ 4) nilA)))))) (retS fun ρ => (kon (.bl false))) nxS)
    (ifS (fun ρ => (b2T dNe (frzE (lcL (itR1 (consM (cbE dLen (consM (rd ρ 6) nilA)) nilA)) (.nm 8) (fun ρ => (b2T dNe (cbE reprD (consM (callE 2 g_address_at (consM (rd ρ 5) (consM (rd ρ 8) nilA))) nilA)) (cbE reprD (consM (b2 ixD (rd ρ 6) (rd ρ 8)) nilA)))) (fun ρ => (rd ρ 8)) ρ [8])) (frzE (lstE nilA)))) (retS fun ρ => (kon (.bl false))) nxS)))))))
noncomputable def L2_law : SM :=
  (seqS (setS 2 fun ρ => (celE (callL 2 g__law_kettle (consM (rd ρ 0) (consM (rd ρ 1) nilA)))))
    (forS (fun ρ => (itR1 (consM (b2 ixD (frzE (lstE (consM (kon (.int 1)) (consM (kon (.int 3)) nilA)))) (cbE dIntU (consM (b2 dEq (rd ρ 1) (kon (.int 0))) nilA))) nilA))) (.nm 3) L1_law))
noncomputable def L3_law : SM :=
  (seqS (setS 8 fun ρ => (callE 2 g__law_scoop (consM (rd ρ 2) (consM (cbE dLen (consM (rd ρ 6) nilA)) nilA))))
    (ifS (fun ρ => (b2T dNe (callE 2 g_address_at (consM (rd ρ 5) (consM (rd ρ 8) nilA))) (b2 ixD (rd ρ 6) (rd ρ 8)))) (retS fun ρ => (kon (.bl false))) nxS))
noncomputable def B_law : SM :=
  (seqS (forS (fun ρ => (itR1 (consM (cbE dMax2 (consM (kon (.int 1)) (consM (cbE dMin2 (consM (kon (.int 8)) (consM (cbE dLen (consM (rd ρ 0) nilA)) nilA))) nilA))) nilA))) (.nm 1) L2_law)
    (seqS (setS 2 fun ρ => (celE (callL 2 g__law_kettle (consM (rd ρ 0) (consM (kon (.int 0)) nilA)))))
    (seqS (setS 4 fun ρ => (callE 1 g__law_wide (consM (rd ρ 2) nilA)))
    (seqS (asgD (fun ρ => (tupE (consM (callE 1 g__law_made (consM (rd ρ 4) nilA)) (consM (frzE (callL 1 (g__law_reads 8) (consM (rd ρ 4) nilA))) nilA)))) (.tp [(.nm 5), (.nm 6)]))
    (seqS (ifS (fun ρ => (b2T dNe (frzE (callL 1 g_written (consM (rd ρ 5) nilA))) (rd ρ 6))) (retS fun ρ => (kon (.bl false))) nxS)
    (seqS (forS (fun ρ => (itR1 (consM (kon (.int 60)) nilA))) (.nm 3) L3_law)
    (seqS (setS 9 fun ρ => (makeE NMf 1 2 g_Program___init__ (consM (kon (.str "( 0-99 )100")) nilA)))
    (seqS (ifS (fun ρ => (b2T dNe (frzE (callL 1 g_written (consM (rd ρ 9) nilA))) (frzE (repL_ (lrgL (consM (kon (.int 100)) nilA)) (kon (.int 100)))))) (retS fun ρ => (kon (.bl false))) nxS)
    (retS fun ρ => (b2 dEq (frzE (lstE (consM (cbE dLen (consM (frzE (callL 1 g_written (consM (rd ρ 9) nilA))) nilA)) (consM (frzE (callL 1 g_written (consM (makeE NMf 1 2 g_Program___init__ (consM (kon (.str "")) nilA)) nilA))) (consM (frzE (callL 1 g_written (consM (makeE NMf 1 2 g_Program___init__ (consM (kon (.str "2-0 5")) nilA)) nilA))) nilA))))) (frzE (lstE (consM (kon (.int 10000)) (consM (frzE (lstE nilA)) (consM (frzE (lstE (consM (kon (.int 2)) (consM (kon (.int 1)) (consM (kon (.int 0)) (consM (kon (.int 5)) nilA)))))) nilA)))))))))))))))
noncomputable def g_law : List D → M D := bodyD 10 B_law
/-! ### .. and that it does -/
section
variable {P : Program} {w : World} {K : PySem.W.Frag} {mg : Str → Option Value} {base h : Heap}
theorem fr_isinstance (X : K.In h) (G : h.Ns mainGlobals mg) (c : SaysW fa pr op bn xf fn K) : mg "isinstance" = none := He.free_ok X G (c.fact 33 (f := .free "isinstance") rfl)
theorem fr_bool (X : K.In h) (G : h.Ns mainGlobals mg) (c : SaysW fa pr op bn xf fn K) : mg "bool" = none := He.free_ok X G (c.fact 34 (f := .free "bool") rfl)
theorem fr_int (X : K.In h) (G : h.Ns mainGlobals mg) (c : SaysW fa pr op bn xf fn K) : mg "int" = none := He.free_ok X G (c.fact 35 (f := .free "int") rfl)
theorem fr_all (X : K.In h) (G : h.Ns mainGlobals mg) (c : SaysW fa pr op bn xf fn K) : mg "all" = none := He.free_ok X G (c.fact 36 (f := .free "all") rfl)
theorem fr_len (X : K.In h) (G : h.Ns mainGlobals mg) (c : SaysW fa pr op bn xf fn K) : mg "len" = none := He.free_ok X G (c.fact 37 (f := .free "len") rfl)
theorem fr_str (X : K.In h) (G : h.Ns mainGlobals mg) (c : SaysW fa pr op bn xf fn K) : mg "str" = none := He.free_ok X G (c.fact 38 (f := .free "str") rfl)
theorem fr_abs (X : K.In h) (G : h.Ns mainGlobals mg) (c : SaysW fa pr op bn xf fn K) : mg "abs" = none := He.free_ok X G (c.fact 39 (f := .free "abs") rfl)
theorem fr_range (X : K.In h) (G : h.Ns mainGlobals mg) (c : SaysW fa pr op bn xf fn K) : mg "range" = none := He.free_ok X G (c.fact 40 (f := .free "range") rfl)
theorem fr_max (X : K.In h) (G : h.Ns mainGlobals mg) (c : SaysW fa pr op bn xf fn K) : mg "max" = none := He.free_ok X G (c.fact 41 (f := .free "max") rfl)
theorem fr_min (X : K.In h) (G : h.Ns mainGlobals mg) (c : SaysW fa pr op bn xf fn K) : mg "min" = none := He.free_ok X G (c.fact 42 (f := .free "min") rfl)
theorem fr_repr (X : K.In h) (G : h.Ns mainGlobals mg) (c : SaysW fa pr op bn xf fn K) : mg "repr" = none := He.free_ok X G (c.fact 43 (f := .free "repr") rfl)
theorem fr_list (X : K.In h) (G : h.Ns mainGlobals mg) (c : SaysW fa pr op bn xf fn K) : mg "list" = none := He.free_ok X G (c.fact 44 (f := .free "list") rfl)
theorem neF_Program (c : SaysW fa pr op bn xf fn K) : NeF K ((TT K).C 1) := ne_ok (c.more 0 (p := .ne "Program") rfl)
theorem gi_MOST_NUMBER {Xc : Cx} {EE : XX} {pos : Pos} {T : Tab} (X : Xc.K.In h) (G : h.Ns mainGlobals Xc.mg) (c : SaysW fa pr op bn xf fn Xc.K) (hg : Gl Xc "MOST_NUMBER") : EvE Xc T EE (.Name "MOST_NUMBER" pos) (fun _ => kon (.int 1000000000000000000000000000000)) := by
  obtain ⟨t, e⟩ := He.int_ok X G (c.fact 45 (f := .int "MOST_NUMBER" 1000000000000000000000000000000) rfl)
  exact ev_gint hg e ⟨t, rfl⟩
theorem gi_MOST_OPEN {Xc : Cx} {EE : XX} {pos : Pos} {T : Tab} (X : Xc.K.In h) (G : h.Ns mainGlobals Xc.mg) (c : SaysW fa pr op bn xf fn Xc.K) (hg : Gl Xc "MOST_OPEN") : EvE Xc T EE (.Name "MOST_OPEN" pos) (fun _ => kon (.int 5)) := by
  obtain ⟨t, e⟩ := He.int_ok X G (c.fact 46 (f := .int "MOST_OPEN" 5) rfl)
  exact ev_gint hg e ⟨t, rfl⟩
theorem gi_MOST_SCANS {Xc : Cx} {EE : XX} {pos : Pos} {T : Tab} (X : Xc.K.In h) (G : h.Ns mainGlobals Xc.mg) (c : SaysW fa pr op bn xf fn Xc.K) (hg : Gl Xc "MOST_SCANS") : EvE Xc T EE (.Name "MOST_SCANS" pos) (fun _ => kon (.int 40)) := by
  obtain ⟨t, e⟩ := He.int_ok X G (c.fact 47 (f := .int "MOST_SCANS" 40) rfl)
  exact ev_gint hg e ⟨t, rfl⟩
theorem gi_MOST_WRITTEN {Xc : Cx} {EE : XX} {pos : Pos} {T : Tab} (X : Xc.K.In h) (G : h.Ns mainGlobals Xc.mg) (c : SaysW fa pr op bn xf fn Xc.K) (hg : Gl Xc "MOST_WRITTEN") : EvE Xc T EE (.Name "MOST_WRITTEN" pos) (fun _ => kon (.int 10000)) := by
  obtain ⟨t, e⟩ := He.int_ok X G (c.fact 48 (f := .int "MOST_WRITTEN" 10000) rfl)
  exact ev_gint hg e ⟨t, rfl⟩
theorem fld_held (c : SaysW fa pr op bn xf fn K) : ∀ i ∈ ([0] : List Nat), Cls K ((TT K).C i) ∧ NoAttr K ((TT K).C i) "held" := by
  intro i hi
  simp only [List.mem_cons, List.not_mem_nil, or_false] at hi
  rcases hi with rfl
  · exact ⟨He.cls_ok (c.fact 0 rfl), He.noat_ok (c.fact 1 rfl)⟩
theorem fld_own_nodes (c : SaysW fa pr op bn xf fn K) : ∀ i ∈ ([1] : List Nat), Cls K ((TT K).C i) ∧ NoAttr K ((TT K).C i) "own_nodes" := by
  intro i hi
  simp only [List.mem_cons, List.not_mem_nil, or_false] at hi
  rcases hi with rfl
  · exact ⟨He.cls_ok (c.fact 3 rfl), He.noat_ok (c.fact 4 rfl)⟩
theorem isi1_Nodes (c : SaysW fa pr op bn xf fn K) : ∀ n ∈ tyNames, PySem.W.kitOne K (.type n) (.ref (He.ga K "Nodes")) = some false := (isi_ok (c.more 1 (p := .isi "Nodes" [("Nodes", true), ("Program", false)]) rfl)).1
theorem isi2_Nodes (c : SaysW fa pr op bn xf fn K) : ∀ q ∈ tab_Nodes, PySem.W.kitOne K (.ref ((TT K).C q.1)) (.ref (He.ga K "Nodes")) = some q.2 := by
  intro q hq
  unfold tab_Nodes at hq
  simp only [List.mem_cons, List.not_mem_nil, or_false] at hq
  have h := (isi_ok (c.more 1 (p := .isi "Nodes" [("Nodes", true), ("Program", false)]) rfl)).2
  rcases hq with rfl | rfl
  · exact h ("Nodes", true) (by simp)
  · exact h ("Program", false) (by simp)
theorem isi3_Nodes (c : SaysW fa pr op bn xf fn K) : ∀ q ∈ tab_Nodes, InsT K ((TT K).C q.1) := by
  intro q hq
  unfold tab_Nodes at hq
  simp only [List.mem_cons, List.not_mem_nil, or_false] at hq
  rcases hq with rfl | rfl
  · exact ins_ok (He.cls_ok (c.fact 0 rfl)) (c.more 2 (p := .ins "Nodes") rfl)
  · exact ins_ok (He.cls_ok (c.fact 3 rfl)) (c.more 3 (p := .ins "Program") rfl)
theorem isi1_Program (c : SaysW fa pr op bn xf fn K) : ∀ n ∈ tyNames, PySem.W.kitOne K (.type n) (.ref (He.ga K "Program")) = some false := (isi_ok (c.more 4 (p := .isi "Program" [("Nodes", false), ("Program", true)]) rfl)).1
theorem isi2_Program (c : SaysW fa pr op bn xf fn K) : ∀ q ∈ tab_Program, PySem.W.kitOne K (.ref ((TT K).C q.1)) (.ref (He.ga K "Program")) = some q.2 := by
  intro q hq
  unfold tab_Program at hq
  simp only [List.mem_cons, List.not_mem_nil, or_false] at hq
  have h := (isi_ok (c.more 4 (p := .isi "Program" [("Nodes", false), ("Program", true)]) rfl)).2
  rcases hq with rfl | rfl
  · exact h ("Nodes", false) (by simp)
  · exact h ("Program", true) (by simp)
theorem isi3_Program (c : SaysW fa pr op bn xf fn K) : ∀ q ∈ tab_Program, InsT K ((TT K).C q.1) := by
  intro q hq
  unfold tab_Program at hq
  simp only [List.mem_cons, List.not_mem_nil, or_false] at hq
  rcases hq with rfl | rfl
  · exact ins_ok (He.cls_ok (c.fact 0 rfl)) (c.more 2 (p := .ins "Nodes") rfl)
  · exact ins_ok (He.cls_ok (c.fact 3 rfl)) (c.more 3 (p := .ins "Program") rfl)
theorem ok_is_int (X : K.In h) (G : h.Ns mainGlobals mg) (c : SaysW fa pr op bn xf fn K) : FnB P w K mg base 1 "is_int" ["value"] (spD K (TT K) 1 g_is_int) :=
  fnB (c.def_ 0 (d := d_is_int) rfl) (He.glo_ok X G (c.fact 7 (f := .glo "is_int") rfl)) (fun fd F => FunD.bindsN F fun _ _ _ _ _ _ us hl => match us, hl with | [_], _ => rfl) fun fd F =>
    fn_D F sc_is_int fun cdv A outer s H E hr nr =>
    (es_one (es_ret (ev_and (ev_isi tabInt hk_int (by rfl) (fr_isinstance X G c) boot_isinstance (ev_var 0 rfl (.inl rfl)) (by rfl) (fr_int X G c) boot_int) (ev_one (ev_not (ev_isi (tabIs "bool") hk_bool (by rfl) (fr_isinstance X G c) boot_isinstance (ev_var 0 rfl (.inl rfl)) (by rfl) (fr_bool X G c) boot_bool))))))
theorem ok_in_range (X : K.In h) (G : h.Ns mainGlobals mg) (c : SaysW fa pr op bn xf fn K) : FnB P w K mg base 2 "in_range" ["value", "low", "high"] (spD K (TT K) 3 g_in_range) :=
  fnB (c.def_ 1 (d := d_in_range) rfl) (He.glo_ok X G (c.fact 8 (f := .glo "in_range") rfl)) (fun fd F => FunD.bindsN F fun _ _ _ _ _ _ us hl => match us, hl with | [_, _, _], _ => rfl) fun fd F =>
    fn_D F sc_in_range fun cdv A outer s H E hr nr =>
    (es_one (es_ret (ev_and (ev_callB (ok_is_int X G c) hr (by decide) nr (by rfl) (ea_cons (ev_var 0 rfl (.inl rfl)) ea_nil)) (ev_and (ev_cmp op_dLe rfl (ev_var 1 rfl (.inl rfl)) (ev_var 0 rfl (.inl rfl))) (ev_one (ev_or (ev_cmp op_dIs rfl (ev_var 2 rfl (.inl rfl)) ev_non) (ev_one (ev_cmp op_dLe rfl (ev_var 0 rfl (.inl rfl)) (ev_var 2 rfl (.inl rfl))))))))))
theorem ok_number_in (X : K.In h) (G : h.Ns mainGlobals mg) (c : SaysW fa pr op bn xf fn K) : FnB P w K mg base 3 "number_in" ["word", "low"] (spD K (TT K) 2 g_number_in) :=
  fnB (c.def_ 2 (d := d_number_in) rfl) (He.glo_ok X G (c.fact 9 (f := .glo "number_in") rfl)) (fun fd F => FunD.bindsN F fun _ _ _ _ _ _ us hl => match us, hl with | [_, _], _ => rfl) fun fd F =>
    fn_D F sc_number_in fun cdv A outer s H E hr nr =>
    (es_cons (es_if (evt_of (evw_or (ev_cmpT (op_dEq hr.units) rfl (ev_var 0 rfl (.inl rfl)) (ev_str (by decide +kernel))) (evw_or (ev_cmpT op_dGt rfl (ev_cb cb_len (by rfl) (fr_len X G c) boot_len (ea_cons (ev_var 0 rfl (.inl rfl)) ea_nil)) ev_int) (evw_or1 (evt_not (ev_val (ev_cb (cb_all rfl) (by rfl) (fr_all X G c) boot_all (ea_cons (ev_frz (evL_lc (own := [("sign", 2)]) rfl sc_number_in.nd (ei_seq (ev_var 0 rfl (.inl rfl))) (blkOk_by (N := N_number_in) (sc := (defScope s_number_in)) (own := [("sign", 2)]) (by decide +kernel)) (fun _ _ _ _ _ => (eg_name 2 sc_number_in.nd rfl (.inl rfl))) (fun _ _ _ _ _ => ets_nil) (fun _ _ _ _ _ => (ev_cmp (op_dInU (hu65 hr)) rfl (ev_var 2 rfl (.inl rfl)) (ev_str (by decide +kernel)))))) ea_nil)))))))) (es_one (es_ret ev_non)) es_nil)
    (es_cons (es_if (evt_of (evw_and (ev_cmpT (op_dEq hr.units) rfl (ev_ix (ev_var 0 rfl (.inl rfl)) ev_int (fun _ _ => rfl)) (ev_str (by decide +kernel))) (evw_and1 (ev_cmpT (op_dNe hr.units) rfl (ev_var 0 rfl (.inl rfl)) (ev_str (by decide +kernel)))))) (es_one (es_ret ev_non)) es_nil)
    (es_one (es_ret (ev_ifExp (ev_val (ev_callB (ok_in_range X G c) hr (by decide) nr (by rfl) (ea_cons (ev_ct ct_intU (by rfl) (fr_int X G c) boot_int (ea_cons (ev_var 0 rfl (.inl rfl)) ea_nil)) (ea_cons (ev_var 1 rfl (.inl rfl)) (ea_cons (gi_MOST_NUMBER X G c (by rfl)) ea_nil))))) (ev_ct ct_intU (by rfl) (fr_int X G c) boot_int (ea_cons (ev_var 0 rfl (.inl rfl)) ea_nil)) ev_non)))))
theorem ok_scan_in (X : K.In h) (G : h.Ns mainGlobals mg) (c : SaysW fa pr op bn xf fn K) : FnB P w K mg base 4 "scan_in" ["word"] (spD K (TT K) 1 g_scan_in) :=
  fnB (c.def_ 3 (d := d_scan_in) rfl) (He.glo_ok X G (c.fact 10 (f := .glo "scan_in") rfl)) (fun fd F => FunD.bindsN F fun _ _ _ _ _ _ us hl => match us, hl with | [_], _ => rfl) fun fd F =>
    fn_D F sc_scan_in fun cdv A outer s H E hr nr =>
    (es_cons (es_if (ev_cmpT (op_dNotInU (hu65 hr)) rfl (ev_str (by decide +kernel)) (ev_var 0 rfl (.inl rfl))) (es_cons (es_set (i := 1) sc_scan_in.nd rfl (.inl rfl) (ev_callB (ok_number_in X G c) hr (by decide) nr (by rfl) (ea_cons (ev_var 0 rfl (.inl rfl)) (ea_cons ev_int ea_nil))))
    (es_one (es_ret (ev_ifExp (ev_cmpT op_dIs rfl (ev_var 1 rfl (.inl rfl)) ev_non) ev_non (ev_tup (ea_cons (ev_var 1 rfl (.inl rfl)) (ea_cons (ev_var 1 rfl (.inl rfl)) ea_nil))))))) es_nil)
    (es_cons (es_set (i := 2) sc_scan_in.nd rfl (.inl rfl) (ev_frz (evL_meth PySem.F.plainAttrs_str PySem.F.slot_str_split PySem.F.type_str_split mt_mSplit (ev_var 0 rfl (.inl rfl)) (ea_cons (ev_str (by decide +kernel)) ea_nil))))
    (es_cons (es_setLc (i := 3) (own := [("part", 4)]) rfl sc_scan_in.nd rfl rfl (sw_true rfl rfl rfl (by decide +kernel)) (ei_seq (ev_var 2 rfl (.inl rfl))) (blkOk_by (N := N_scan_in) (sc := (defScope s_scan_in)) (own := [("part", 4)]) (by decide +kernel)) (fun _ _ _ _ _ => (eg_name 4 sc_scan_in.nd rfl (.inl rfl))) (fun _ _ _ _ _ => ets_nil) (fun _ _ _ _ _ => (ev_callB (ok_number_in X G c) hr (by decide) nr (by rfl) (ea_cons (ev_var 4 rfl (.inl rfl)) (ea_cons ev_int ea_nil)))))
    (es_cons (es_if (evt_of (evw_or (ev_cmpT (op_dNe hr.units) rfl (ev_cb cb_len (by rfl) (fr_len X G c) boot_len (ea_cons (ev_var 2 rfl (.inl rfl)) ea_nil)) ev_int) (evw_or (ev_cmpT (op_dInU (hu65 hr)) rfl ev_non (ev_var 3 rfl (.inl rfl))) (evw_or1 (ev_cmpT (op_dEq hr.units) rfl (ev_ix (ev_var 3 rfl (.inl rfl)) ev_int (fun _ _ => rfl)) (ev_ix (ev_var 3 rfl (.inl rfl)) ev_int (fun _ _ => rfl))))))) (es_one (es_ret ev_non)) es_nil)
    (es_one (es_ret (ev_tup (ea_cons (ev_ix (ev_var 3 rfl (.inl rfl)) ev_int (fun _ _ => rfl)) (ea_cons (ev_ix (ev_var 3 rfl (.inl rfl)) ev_int (fun _ _ => rfl)) ea_nil)))))))))
theorem okS_read_nodes (X : K.In h) (G : h.Ns mainGlobals mg) (c : SaysW fa pr op bn xf fn K) {k : Nat} (hk : 4 ≤ k) {hh : List D → M D} (oh : FnB P w K mg base k "read_nodes" ["words", "start", "depth", "scans"] (spD K (TT K) 4 hh)) : FnB P w K mg base (k + 1) "read_nodes" ["words", "start", "depth", "scans"] (spD K (TT K) 4 (gS_read_nodes hh)) :=
  fnB (c.def_ 4 (d := d_read_nodes) rfl) (He.glo_ok X G (c.fact 11 (f := .glo "read_nodes") rfl)) (fun fd F => FunD.bindsN F fun _ _ _ _ _ _ us hl => match us, hl with | [_, _, _, _], _ => rfl) fun fd F =>
    fn_D F sc_read_nodes fun cdv A outer s H E hr nr =>
    (es_cons (es_set (i := 4) sc_read_nodes.nd rfl (.inl rfl) (ev_tup ea_nil))
    (es_cons (es_set (i := 5) sc_read_nodes.nd rfl (.inl rfl) (ev_var 1 rfl (.inl rfl)))
    (es_cons (es_while PassesOwn.never (ev_cmpT op_dLt rfl (ev_var 5 rfl (.inl rfl)) (ev_cb cb_len (by rfl) (fr_len X G c) boot_len (ea_cons (ev_var 0 rfl (.inl rfl)) ea_nil))) (es_cons (es_set (i := 6) sc_read_nodes.nd rfl (.inl rfl) (ev_ix (ev_var 0 rfl (.inl rfl)) (ev_var 5 rfl (.inl rfl)) (fun _ _ => rfl)))
    (es_one (es_if (ev_cmpT (op_dEq hr.units) rfl (ev_var 6 rfl (.inl rfl)) (ev_str (by decide +kernel))) (es_cons (es_if (ev_cmpT (op_dEq hr.units) rfl (ev_var 2 rfl (.inl rfl)) (gi_MOST_OPEN X G c (by rfl))) (es_one es_never) es_nil)
    (es_cons (es_asg (ev_callB oh hr (by omega) nr (by rfl) (ea_cons (ev_var 0 rfl (.inl rfl)) (ea_cons (ev_bin op_dAdd (ev_var 5 rfl (.inl rfl)) ev_int) (ea_cons (ev_bin op_dAdd (ev_var 2 rfl (.inl rfl)) ev_int) (ea_cons (ev_var 3 rfl (.inl rfl)) ea_nil))))) (eg_tup rfl (egs_cons (eg_name 7 sc_read_nodes.nd rfl (.inl rfl)) (egs_cons (eg_name 8 sc_read_nodes.nd rfl (.inl rfl)) (egs_cons (eg_name 3 sc_read_nodes.nd rfl (.inl rfl)) egs_nil)))))
    (es_cons (es_set (i := 4) sc_read_nodes.nd rfl (.inl rfl) (ev_bin op_dAdd (ev_var 4 rfl (.inl rfl)) (ev_tup (ea_cons (ev_tup (ea_cons (ev_str (by decide +kernel)) (ea_cons (ev_var 7 rfl (.inl rfl)) (ea_cons (ev_ct ct_intU (by rfl) (fr_int X G c) boot_int (ea_cons (ev_slice (ev_ix (ev_var 0 rfl (.inl rfl)) (ev_var 8 rfl (.inl rfl)) (fun _ _ => rfl)) (eo_some ev_int) eo_none) ea_nil)) ea_nil)))) ea_nil))))
    (es_one (es_set (i := 5) sc_read_nodes.nd rfl (.inl rfl) (ev_bin op_dAdd (ev_var 8 rfl (.inl rfl)) ev_int)))))) (es_one (es_if (ev_cmpT (op_dEq hr.units) rfl (ev_slice (ev_var 6 rfl (.inl rfl)) eo_none (eo_some ev_int)) (ev_str (by decide +kernel))) (es_cons (es_if (evt_of (evw_or (ev_cmpT (op_dEq hr.units) rfl (ev_var 2 rfl (.inl rfl)) ev_int) (evw_or (ev_cmpT (op_dEq hr.units) rfl (ev_var 4 rfl (.inl rfl)) (ev_tup ea_nil)) (evw_or1 (ev_cmpT op_dIs rfl (ev_callB (ok_number_in X G c) hr (by omega) nr (by rfl) (ea_cons (ev_slice (ev_var 6 rfl (.inl rfl)) (eo_some ev_int) eo_none) (ea_cons ev_int ea_nil))) ev_non))))) (es_one es_never) es_nil)
    (es_one (es_ret (ev_tup (ea_cons (ev_var 4 rfl (.inl rfl)) (ea_cons (ev_var 5 rfl (.inl rfl)) (ea_cons (ev_var 3 rfl (.inl rfl)) ea_nil))))))) (es_cons (es_set (i := 9) sc_read_nodes.nd rfl (.inl rfl) (ev_callB (ok_scan_in X G c) hr (by omega) nr (by rfl) (ea_cons (ev_var 6 rfl (.inl rfl)) ea_nil)))
    (es_cons (es_if (evt_of (evw_or (ev_cmpT op_dIs rfl (ev_var 9 rfl (.inl rfl)) ev_non) (evw_or1 (ev_cmpT (op_dEq hr.units) rfl (ev_var 3 rfl (.inl rfl)) (gi_MOST_SCANS X G c (by rfl)))))) (es_one es_never) es_nil)
    (es_cons (es_set (i := 4) sc_read_nodes.nd rfl (.inl rfl) (ev_bin op_dAdd (ev_var 4 rfl (.inl rfl)) (ev_tup (ea_cons (ev_tup (ea_cons (ev_str (by decide +kernel)) (ea_cons (ev_ix (ev_var 9 rfl (.inl rfl)) ev_int (fun _ _ => rfl)) (ea_cons (ev_ix (ev_var 9 rfl (.inl rfl)) ev_int (fun _ _ => rfl)) ea_nil)))) ea_nil))))
    (es_cons (es_set (i := 3) sc_read_nodes.nd rfl (.inl rfl) (ev_bin op_dAdd (ev_var 3 rfl (.inl rfl)) ev_int))
    (es_one (es_set (i := 5) sc_read_nodes.nd rfl (.inl rfl) (ev_bin op_dAdd (ev_var 5 rfl (.inl rfl)) ev_int)))))))))))))
    (es_cons (es_if (ev_cmpT op_dGt rfl (ev_var 2 rfl (.inl rfl)) ev_int) (es_one es_never) es_nil)
    (es_one (es_ret (ev_tup (ea_cons (ev_var 4 rfl (.inl rfl)) (ea_cons (ev_var 5 rfl (.inl rfl)) (ea_cons (ev_var 3 rfl (.inl rfl)) ea_nil))))))))))
theorem ok_read_nodes (X : K.In h) (G : h.Ns mainGlobals mg) (c : SaysW fa pr op bn xf fn K) : (n : Nat) → FnB P w K mg base (4 + 1 * n) "read_nodes" ["words", "start", "depth", "scans"] (spD K (TT K) 4 (g_read_nodes n))
  | 0 => fnB_stk (c.def_ 4 (d := d_read_nodes) rfl) (He.glo_ok X G (c.fact 11 (f := .glo "read_nodes") rfl)) (fun fd F => FunD.bindsN F fun _ _ _ _ _ _ us hl => match us, hl with | [_, _, _, _], _ => rfl)
  | n + 1 => fnB_lv (by omega) (okS_read_nodes X G c (k := 4 + 1 * n) (by omega) (ok_read_nodes X G c n))
theorem ok_Nodes___init__ (X : K.In h) (G : h.Ns mainGlobals mg) (c : SaysW fa pr op bn xf fn K) : FnA P w K mg base 1 (He.ma K (He.ga K "Nodes") "__init__") ["self", "held"] (spD K (TT K) 2 g_Nodes___init__) :=
  fnA (c.def_ 5 (d := d_Nodes___init__) rfl) (fun fd F => FunD.bindsN F fun _ _ _ _ _ _ us hl => match us, hl with | [_, _], _ => rfl) fun fd F =>
    fn_D F sc_Nodes___init__ fun cdv A outer s H E hr nr =>
    (es_one (es_fld [0] (fld_held c) (ev_var 1 rfl (.inl rfl)) (ev_var 0 rfl (.inl rfl))))
theorem ok_Program___init__ (X : K.In h) (G : h.Ns mainGlobals mg) (c : SaysW fa pr op bn xf fn K) : FnA P w K mg base 13 (He.ma K (He.ga K "Program") "__init__") ["self", "text"] (spD K (TT K) 2 g_Program___init__) :=
  fnA (c.def_ 6 (d := d_Program___init__) rfl) (fun fd F => FunD.bindsN F fun _ _ _ _ _ _ us hl => match us, hl with | [_, _], _ => rfl) fun fd F =>
    fn_D F sc_Program___init__ fun cdv A outer s H E hr nr =>
    (es_one (es_if (ev_val (ev_isiC (tab_Nodes) (isi1_Nodes c) (isi2_Nodes c) (isi3_Nodes c) (by rfl) (fr_isinstance X G c) boot_isinstance (ev_var 1 rfl (.inl rfl)) (by rfl) (He.glo_ok X G (c.fact 2 rfl)))) (es_one (es_fld [1] (fld_own_nodes c) (ev_fld NMf [0] rfl (fld_held c) (ev_var 1 rfl (.inl rfl))) (ev_var 0 rfl (.inl rfl)))) (es_one (es_if (ev_val (ev_isi (tabIs "str") hk_str (by rfl) (fr_isinstance X G c) boot_isinstance (ev_var 1 rfl (.inl rfl)) (by rfl) (fr_str X G c) boot_str)) (es_one (es_fld [1] (fld_own_nodes c) (ev_ix (ev_callB (ok_read_nodes X G c 8) hr (by decide) nr (by rfl) (ea_cons (ev_ifExp (ev_cmpT (op_dNe hr.units) rfl (ev_var 1 rfl (.inl rfl)) (ev_str (by decide +kernel))) (ev_frz (evL_meth PySem.F.plainAttrs_str PySem.F.slot_str_split PySem.F.type_str_split mt_mSplit (ev_var 1 rfl (.inl rfl)) (ea_cons (ev_str (by decide +kernel)) ea_nil))) (ev_frz (evL_lst ea_nil))) (ea_cons ev_int (ea_cons ev_int (ea_cons ev_int ea_nil))))) ev_int (fun _ _ => rfl)) (ev_var 0 rfl (.inl rfl)))) (es_one es_never)))))
theorem ok_size_of (X : K.In h) (G : h.Ns mainGlobals mg) (c : SaysW fa pr op bn xf fn K) : FnB P w K mg base 1 "size_of" ["scan"] (spD K (TT K) 1 g_size_of) :=
  fnB (c.def_ 7 (d := d_size_of) rfl) (He.glo_ok X G (c.fact 12 (f := .glo "size_of") rfl)) (fun fd F => FunD.bindsN F fun _ _ _ _ _ _ us hl => match us, hl with | [_], _ => rfl) fun fd F =>
    fn_D F sc_size_of fun cdv A outer s H E hr nr =>
    (es_one (es_ret (ev_bin op_dAdd (ev_cb cb_abs (by rfl) (fr_abs X G c) boot_abs (ea_cons (ev_bin op_dSub (ev_ix (ev_var 0 rfl (.inl rfl)) ev_int (fun _ _ => rfl)) (ev_ix (ev_var 0 rfl (.inl rfl)) ev_int (fun _ _ => rfl))) ea_nil)) ev_int)))
theorem okS_accesses_in (X : K.In h) (G : h.Ns mainGlobals mg) (c : SaysW fa pr op bn xf fn K) {k : Nat} (hk : 1 ≤ k) {hh : List D → M D} (oh : FnB P w K mg base k "accesses_in" ["nodes"] (spD K (TT K) 1 hh)) : FnB P w K mg base (k + 1) "accesses_in" ["nodes"] (spD K (TT K) 1 (gS_accesses_in hh)) :=
  fnB (c.def_ 8 (d := d_accesses_in) rfl) (He.glo_ok X G (c.fact 13 (f := .glo "accesses_in") rfl)) (fun fd F => FunD.bindsN F fun _ _ _ _ _ _ us hl => match us, hl with | [_], _ => rfl) fun fd F =>
    fn_D F sc_accesses_in fun cdv A outer s H E hr nr =>
    (es_cons (es_set (i := 1) sc_accesses_in.nd rfl (.inl rfl) ev_int)
    (es_cons (es_for PassesOwn.never rfl (ei_seq (ev_var 0 rfl (.inl rfl))) (eg_name 2 sc_accesses_in.nd rfl (.inl rfl)) (es_one (es_set (i := 1) sc_accesses_in.nd rfl (.inl rfl) (ev_bin op_dAdd (ev_var 1 rfl (.inl rfl)) (ev_ifExp (ev_cmpT (op_dEq hr.units) rfl (ev_ix (ev_var 2 rfl (.inl rfl)) ev_int (fun _ _ => rfl)) (ev_str (by decide +kernel))) (ev_bin op_dMul (ev_callB oh hr (by omega) nr (by rfl) (ea_cons (ev_ix (ev_var 2 rfl (.inl rfl)) ev_int (fun _ _ => rfl)) ea_nil)) (ev_ix (ev_var 2 rfl (.inl rfl)) ev_int (fun _ _ => rfl))) (ev_callB (ok_size_of X G c) hr (by omega) nr (by rfl) (ea_cons (ev_slice (ev_var 2 rfl (.inl rfl)) (eo_some ev_int) eo_none) ea_nil)))))))
    (es_one (es_ret (ev_var 1 rfl (.inl rfl))))))
theorem ok_accesses_in (X : K.In h) (G : h.Ns mainGlobals mg) (c : SaysW fa pr op bn xf fn K) : (n : Nat) → FnB P w K mg base (1 + 1 * n) "accesses_in" ["nodes"] (spD K (TT K) 1 (g_accesses_in n))
  | 0 => fnB_stk (c.def_ 8 (d := d_accesses_in) rfl) (He.glo_ok X G (c.fact 13 (f := .glo "accesses_in") rfl)) (fun fd F => FunD.bindsN F fun _ _ _ _ _ _ us hl => match us, hl with | [_], _ => rfl)
  | n + 1 => fnB_lv (by omega) (okS_accesses_in X G c (k := 1 + 1 * n) (by omega) (ok_accesses_in X G c n))
theorem ok_Program_accesses (X : K.In h) (G : h.Ns mainGlobals mg) (c : SaysW fa pr op bn xf fn K) : FnA P w K mg base 10 (prG K ⟨"Program", "accesses"⟩) ["self"] (spD K (TT K) 1 g_Program_accesses) :=
  fnA (c.def_ 9 (d := d_Program_accesses) rfl) (fun fd F => FunD.bindsN F fun _ _ _ _ _ _ us hl => match us, hl with | [_], _ => rfl) fun fd F =>
    fn_D F sc_Program_accesses fun cdv A outer s H E hr nr =>
    (es_one (es_ret (ev_callB (ok_accesses_in X G c 8) hr (by decide) nr (by rfl) (ea_cons (ev_fld NMf [1] rfl (fld_own_nodes c) (ev_var 0 rfl (.inl rfl))) ea_nil))))
theorem ok_Program___eq__ (X : K.In h) (G : h.Ns mainGlobals mg) (c : SaysW fa pr op bn xf fn K) : FnA P w K mg base 14 (He.ma K (He.ga K "Program") "__eq__") ["self", "other"] (spD K (TT K) 2 g_Program___eq__) :=
  fnA (c.def_ 10 (d := d_Program___eq__) rfl) (fun fd F => FunD.bindsN F fun _ _ _ _ _ _ us hl => match us, hl with | [_, _], _ => rfl) fun fd F =>
    fn_D F sc_Program___eq__ fun cdv A outer s H E hr nr =>
    (es_one (es_ret (ev_and (ev_isiC (tab_Program) (isi1_Program c) (isi2_Program c) (isi3_Program c) (by rfl) (fr_isinstance X G c) boot_isinstance (ev_var 1 rfl (.inl rfl)) (by rfl) (He.glo_ok X G (c.fact 5 rfl))) (ev_one (ev_cmp (op_dEq hr.units) rfl (ev_fld NMf [1] rfl (fld_own_nodes c) (ev_var 0 rfl (.inl rfl))) (ev_fld NMf [1] rfl (fld_own_nodes c) (ev_var 1 rfl (.inl rfl))))))))
theorem ok_require_program (X : K.In h) (G : h.Ns mainGlobals mg) (c : SaysW fa pr op bn xf fn K) : FnB P w K mg base 14 "require_program" ["value"] (spD K (TT K) 1 g_require_program) :=
  fnB (c.def_ 11 (d := d_require_program) rfl) (He.glo_ok X G (c.fact 14 (f := .glo "require_program") rfl)) (fun fd F => FunD.bindsN F fun _ _ _ _ _ _ us hl => match us, hl with | [_], _ => rfl) fun fd F =>
    fn_D F sc_require_program fun cdv A outer s H E hr nr =>
    (es_one (es_if (evt_not (ev_val (ev_isiC (tab_Program) (isi1_Program c) (isi2_Program c) (isi3_Program c) (by rfl) (fr_isinstance X G c) boot_isinstance (ev_var 0 rfl (.inl rfl)) (by rfl) (He.glo_ok X G (c.fact 5 rfl))))) (es_one es_never) es_nil))
theorem ok_step_of (X : K.In h) (G : h.Ns mainGlobals mg) (c : SaysW fa pr op bn xf fn K) : FnB P w K mg base 1 "step_of" ["scan"] (spD K (TT K) 1 g_step_of) :=
  fnB (c.def_ 12 (d := d_step_of) rfl) (He.glo_ok X G (c.fact 15 (f := .glo "step_of") rfl)) (fun fd F => FunD.bindsN F fun _ _ _ _ _ _ us hl => match us, hl with | [_], _ => rfl) fun fd F =>
    fn_D F sc_step_of fun cdv A outer s H E hr nr =>
    (es_one (es_ret (ev_ifExp (ev_cmpT op_dLe rfl (ev_ix (ev_var 0 rfl (.inl rfl)) ev_int (fun _ _ => rfl)) (ev_ix (ev_var 0 rfl (.inl rfl)) ev_int (fun _ _ => rfl))) ev_int (ev_un un_dNeg ev_int))))
theorem okS_listed (X : K.In h) (G : h.Ns mainGlobals mg) (c : SaysW fa pr op bn xf fn K) {k : Nat} (hk : 1 ≤ k) {hh : List D → M (List D)} (oh : FnB P w K mg base k "listed" ["nodes"] (spL K (TT K) 1 hh)) : FnB P w K mg base (k + 1) "listed" ["nodes"] (spL K (TT K) 1 (gS_listed hh)) :=
  fnB (c.def_ 13 (d := d_listed) rfl) (He.glo_ok X G (c.fact 16 (f := .glo "listed") rfl)) (fun fd F => FunD.bindsN F fun _ _ _ _ _ _ us hl => match us, hl with | [_], _ => rfl) fun fd F =>
    fn_L F sc_listed fun cdv A outer s H E hr nr =>
    (es_cons (es_set (i := 1) sc_listed.nd rfl (.inl rfl) (ev_cell (evL_lst ea_nil)))
    (es_cons (es_for PassesOwn.never rfl (ei_seq (ev_var 0 rfl (.inl rfl))) (eg_name 2 sc_listed.nd rfl (.inl rfl)) (es_one (es_if (ev_cmpT (op_dEq hr.units) rfl (ev_ix (ev_var 2 rfl (.inl rfl)) ev_int (fun _ _ => rfl)) (ev_str (by decide +kernel))) (es_cons (es_set (i := 3) sc_listed.nd rfl (.inr rfl) (ev_slice (ev_var 2 rfl (.inl rfl)) (eo_some ev_int) eo_none))
    (es_one (es_expr (ev_meth PySem.F.plainAttrs_list PySem.F.slot_list_extend PySem.F.type_list_extend mt_mExtend (ev_var 1 rfl (.inl rfl)) (ea_cons (ev_frz (evL_lc (own := [("spot", 4)]) rfl sc_listed.nd (ei_range1 (by rfl) (fr_range X G c) (ea_cons (ev_callB (ok_size_of X G c) hr (by omega) nr (by rfl) (ea_cons (ev_var 3 rfl (.inr (.inl rfl))) ea_nil)) ea_nil)) (blkOk_by (N := N_listed) (sc := (defScope s_listed)) (own := [("spot", 4)]) (by decide +kernel)) (fun _ _ _ _ _ => (eg_name 4 sc_listed.nd rfl (.inl rfl))) (fun _ _ _ _ _ => ets_nil) (fun _ _ _ _ _ => (ev_bin op_dAdd (ev_ix (ev_var 3 rfl (.inr (.inl rfl))) ev_int (fun _ _ => rfl)) (ev_bin op_dMul (ev_callB (ok_step_of X G c) hr (by omega) nr (by rfl) (ea_cons (ev_var 3 rfl (.inr (.inl rfl))) ea_nil)) (ev_var 4 rfl (.inl rfl))))))) ea_nil))))) (es_one (es_expr (ev_meth PySem.F.plainAttrs_list PySem.F.slot_list_extend PySem.F.type_list_extend mt_mExtend (ev_var 1 rfl (.inl rfl)) (ea_cons (ev_frz (evL_rep (evL_callB oh hr (by omega) nr (by rfl) (ea_cons (ev_ix (ev_var 2 rfl (.inl rfl)) ev_int (fun _ _ => rfl)) ea_nil)) (ev_ix (ev_var 2 rfl (.inl rfl)) ev_int (fun _ _ => rfl)))) ea_nil)))))))
    (es_one (es_ret (ev_var 1 rfl (.inl rfl))))))
theorem ok_listed (X : K.In h) (G : h.Ns mainGlobals mg) (c : SaysW fa pr op bn xf fn K) : (n : Nat) → FnB P w K mg base (1 + 1 * n) "listed" ["nodes"] (spL K (TT K) 1 (g_listed n))
  | 0 => fnB_stkL (c.def_ 13 (d := d_listed) rfl) (He.glo_ok X G (c.fact 16 (f := .glo "listed") rfl)) (fun fd F => FunD.bindsN F fun _ _ _ _ _ _ us hl => match us, hl with | [_], _ => rfl)
  | n + 1 => fnB_lv (by omega) (okS_listed X G c (k := 1 + 1 * n) (by omega) (ok_listed X G c n))
theorem ok_written (X : K.In h) (G : h.Ns mainGlobals mg) (c : SaysW fa pr op bn xf fn K) : FnB P w K mg base 15 "written" ["program"] (spL K (TT K) 1 g_written) :=
  fnB (c.def_ 14 (d := d_written) rfl) (He.glo_ok X G (c.fact 17 (f := .glo "written") rfl)) (fun fd F => FunD.bindsN F fun _ _ _ _ _ _ us hl => match us, hl with | [_], _ => rfl) fun fd F =>
    fn_L F sc_written fun cdv A outer s H E hr nr =>
    (es_cons (es_expr (ev_callB (ok_require_program X G c) hr (by decide) nr (by rfl) (ea_cons (ev_var 0 rfl (.inl rfl)) ea_nil)))
    (es_cons (es_if (ev_cmpT op_dGt rfl (ev_propA (NM := NMf) (c := 1) (ok_Program_accesses X G c) hr (by decide) nr rfl (He.cls_ok (c.fact 3 rfl)) (c.prop 0 (p := ⟨"Program", "accesses"⟩) rfl) (ev_var 0 rfl (.inl rfl))) (gi_MOST_WRITTEN X G c (by rfl))) (es_one es_never) es_nil)
    (es_one (es_ret (ev_cell (evL_callB (ok_listed X G c 8) hr (by decide) nr (by rfl) (ea_cons (ev_fld NMf [1] rfl (fld_own_nodes c) (ev_var 0 rfl (.inl rfl))) ea_nil)))))))
theorem ok_require_index (X : K.In h) (G : h.Ns mainGlobals mg) (c : SaysW fa pr op bn xf fn K) : FnB P w K mg base 3 "require_index" ["value", "many"] (spD K (TT K) 2 g_require_index) :=
  fnB (c.def_ 15 (d := d_require_index) rfl) (He.glo_ok X G (c.fact 18 (f := .glo "require_index") rfl)) (fun fd F => FunD.bindsN F fun _ _ _ _ _ _ us hl => match us, hl with | [_, _], _ => rfl) fun fd F =>
    fn_D F sc_require_index fun cdv A outer s H E hr nr =>
    (es_one (es_if (evt_not (ev_val (ev_callB (ok_in_range X G c) hr (by decide) nr (by rfl) (ea_cons (ev_var 0 rfl (.inl rfl)) (ea_cons ev_int (ea_cons (ev_bin op_dSub (ev_var 1 rfl (.inl rfl)) ev_int) ea_nil)))))) (es_one es_never) es_nil))
theorem okS_address_in (X : K.In h) (G : h.Ns mainGlobals mg) (c : SaysW fa pr op bn xf fn K) {k : Nat} (hk : 9 ≤ k) {hh : List D → M D} (oh : FnB P w K mg base k "address_in" ["nodes", "index"] (spD K (TT K) 2 hh)) : FnB P w K mg base (k + 1) "address_in" ["nodes", "index"] (spD K (TT K) 2 (gS_address_in hh)) :=
  fnB (c.def_ 16 (d := d_address_in) rfl) (He.glo_ok X G (c.fact 19 (f := .glo "address_in") rfl)) (fun fd F => FunD.bindsN F fun _ _ _ _ _ _ us hl => match us, hl with | [_, _], _ => rfl) fun fd F =>
    fn_D F sc_address_in fun cdv A outer s H E hr nr =>
    (es_cons (es_for PassesOwn.never rfl (ei_seq (ev_var 0 rfl (.inl rfl))) (eg_name 2 sc_address_in.nd rfl (.inl rfl)) (es_cons (es_set (i := 3) sc_address_in.nd rfl (.inl rfl) (ev_callB (ok_accesses_in X G c 8) hr (by omega) nr (by rfl) (ea_cons (ev_tup (ea_cons (ev_var 2 rfl (.inl rfl)) ea_nil)) ea_nil)))
    (es_cons (es_if (evt_of (evw_and (ev_cmpT op_dLt rfl (ev_var 1 rfl (.inl rfl)) (ev_var 3 rfl (.inl rfl))) (evw_and1 (ev_cmpT (op_dEq hr.units) rfl (ev_ix (ev_var 2 rfl (.inl rfl)) ev_int (fun _ _ => rfl)) (ev_str (by decide +kernel)))))) (es_one (es_ret (ev_bin op_dAdd (ev_ix (ev_var 2 rfl (.inl rfl)) ev_int (fun _ _ => rfl)) (ev_bin op_dMul (ev_callB (ok_step_of X G c) hr (by omega) nr (by rfl) (ea_cons (ev_slice (ev_var 2 rfl (.inl rfl)) (eo_some ev_int) eo_none) ea_nil)) (ev_var 1 rfl (.inl rfl)))))) es_nil)
    (es_cons (es_if (ev_cmpT op_dLt rfl (ev_var 1 rfl (.inl rfl)) (ev_var 3 rfl (.inl rfl))) (es_one (es_ret (ev_callB oh hr (by omega) nr (by rfl) (ea_cons (ev_ix (ev_var 2 rfl (.inl rfl)) ev_int (fun _ _ => rfl)) (ea_cons (ev_bin op_dMod (ev_var 1 rfl (.inl rfl)) (ev_callB (ok_accesses_in X G c 8) hr (by omega) nr (by rfl) (ea_cons (ev_ix (ev_var 2 rfl (.inl rfl)) ev_int (fun _ _ => rfl)) ea_nil))) ea_nil))))) es_nil)
    (es_one (es_aug (i := 1) sc_address_in.nd rfl (.inl rfl) iop_dSub (ev_var 3 rfl (.inl rfl))))))))
    (es_one (es_ret ev_non)))
theorem ok_address_in (X : K.In h) (G : h.Ns mainGlobals mg) (c : SaysW fa pr op bn xf fn K) : (n : Nat) → FnB P w K mg base (9 + 1 * n) "address_in" ["nodes", "index"] (spD K (TT K) 2 (g_address_in n))
  | 0 => fnB_stk (c.def_ 16 (d := d_address_in) rfl) (He.glo_ok X G (c.fact 19 (f := .glo "address_in") rfl)) (fun fd F => FunD.bindsN F fun _ _ _ _ _ _ us hl => match us, hl with | [_, _], _ => rfl)
  | n + 1 => fnB_lv (by omega) (okS_address_in X G c (k := 9 + 1 * n) (by omega) (ok_address_in X G c n))
theorem ok_address_at (X : K.In h) (G : h.Ns mainGlobals mg) (c : SaysW fa pr op bn xf fn K) : FnB P w K mg base 18 "address_at" ["program", "index"] (spD K (TT K) 2 g_address_at) :=
  fnB (c.def_ 17 (d := d_address_at) rfl) (He.glo_ok X G (c.fact 20 (f := .glo "address_at") rfl)) (fun fd F => FunD.bindsN F fun _ _ _ _ _ _ us hl => match us, hl with | [_, _], _ => rfl) fun fd F =>
    fn_D F sc_address_at fun cdv A outer s H E hr nr =>
    (es_cons (es_expr (ev_callB (ok_require_program X G c) hr (by decide) nr (by rfl) (ea_cons (ev_var 0 rfl (.inl rfl)) ea_nil)))
    (es_cons (es_expr (ev_callB (ok_require_index X G c) hr (by decide) nr (by rfl) (ea_cons (ev_var 1 rfl (.inl rfl)) (ea_cons (ev_propA (NM := NMf) (c := 1) (ok_Program_accesses X G c) hr (by decide) nr rfl (He.cls_ok (c.fact 3 rfl)) (c.prop 0 (p := ⟨"Program", "accesses"⟩) rfl) (ev_var 0 rfl (.inl rfl))) ea_nil))))
    (es_one (es_ret (ev_callB (ok_address_in X G c 8) hr (by decide) nr (by rfl) (ea_cons (ev_fld NMf [1] rfl (fld_own_nodes c) (ev_var 0 rfl (.inl rfl))) (ea_cons (ev_var 1 rfl (.inl rfl)) ea_nil)))))))
theorem ok__law_kettle (X : K.In h) (G : h.Ns mainGlobals mg) (c : SaysW fa pr op bn xf fn K) : FnB P w K mg base 1 "_law_kettle" ["script", "k"] (spL K (TT K) 2 g__law_kettle) :=
  fnB (c.def_ 18 (d := d__law_kettle) rfl) (He.glo_ok X G (c.fact 21 (f := .glo "_law_kettle") rfl)) (fun fd F => FunD.bindsN F fun _ _ _ _ _ _ us hl => match us, hl with | [_, _], _ => rfl) fun fd F =>
    fn_L F sc__law_kettle fun cdv A outer s H E hr nr =>
    (es_cons (es_set (i := 2) sc__law_kettle.nd rfl (.inl rfl) ev_int)
    (es_cons (es_if (ev_cmpT op_dLt rfl (ev_var 1 rfl (.inl rfl)) (ev_cb cb_len (by rfl) (fr_len X G c) boot_len (ea_cons (ev_var 0 rfl (.inl rfl)) ea_nil))) (es_one (es_set (i := 2) sc__law_kettle.nd rfl (.inl rfl) (ev_ix (ev_var 0 rfl (.inl rfl)) (ev_var 1 rfl (.inl rfl)) (fun _ _ => rfl)))) es_nil)
    (es_one (es_ret (ev_cell (evL_lst (ea_cons (ev_cb (cb_max2 rfl) (by rfl) (fr_max X G c) boot_max (ea_cons ev_int (ea_cons (ev_bin op_dSub (ev_var 2 rfl (.inl rfl)) (ev_bin op_dPow ev_int ev_int)) ea_nil))) (ea_cons (ev_bin op_dAdd (ev_bin op_dAdd (ev_bin op_dMul (ev_bin op_dMod (ev_ct ct_intU (by rfl) (fr_int X G c) boot_int (ea_cons (ev_var 2 rfl (.inl rfl)) ea_nil)) (ev_bin op_dAdd (ev_bin op_dPow ev_int ev_int) ev_int)) ev_int) (ev_bin op_dMul ev_int (ev_var 1 rfl (.inl rfl)))) ev_int) (ea_cons ev_int ea_nil)))))))))
theorem ok__law_scoop (X : K.In h) (G : h.Ns mainGlobals mg) (c : SaysW fa pr op bn xf fn K) : FnB P w K mg base 1 "_law_scoop" ["kettle", "many"] (spD K (TT K) 2 g__law_scoop) :=
  fnB (c.def_ 19 (d := d__law_scoop) rfl) (He.glo_ok X G (c.fact 22 (f := .glo "_law_scoop") rfl)) (fun fd F => FunD.bindsN F fun _ _ _ _ _ _ us hl => match us, hl with | [_, _], _ => rfl) fun fd F =>
    fn_D F sc__law_scoop fun cdv A outer s H E hr nr =>
    (es_cons (es_if (ev_cmpT op_dGt rfl (ev_ix (ev_var 0 rfl (.inl rfl)) ev_int (fun _ _ => rfl)) ev_int) (es_cons (es_set (i := 2) sc__law_scoop.nd rfl (.inl rfl) (ev_bin op_dMod (ev_ct ct_intU (by rfl) (fr_int X G c) boot_int (ea_cons (ev_ix (ev_var 0 rfl (.inl rfl)) ev_int (fun _ _ => rfl)) ea_nil)) (ev_var 1 rfl (.inl rfl))))
    (es_cons (es_store (ev_bin op_dDiv (ev_ct ct_intU (by rfl) (fr_int X G c) boot_int (ea_cons (ev_ix (ev_var 0 rfl (.inl rfl)) ev_int (fun _ _ => rfl)) ea_nil)) (ev_var 1 rfl (.inl rfl))) (ev_var 0 rfl (.inl rfl)) ev_int)
    (es_one (es_ret (ev_var 2 rfl (.inl rfl)))))) es_nil)
    (es_cons (es_store (ev_bin op_dAdd (ev_ix (ev_var 0 rfl (.inl rfl)) ev_int (fun _ _ => rfl)) ev_int) (ev_var 0 rfl (.inl rfl)) ev_int)
    (es_cons (es_set (i := 3) sc__law_scoop.nd rfl (.inl rfl) (ev_bin op_dMod (ev_ct ct_intU (by rfl) (fr_int X G c) boot_int (ea_cons (ev_bin op_dPow (ev_bin op_dAdd (ev_ix (ev_var 0 rfl (.inl rfl)) ev_int (fun _ _ => rfl)) (ev_bin op_dMul ev_int (ev_ix (ev_var 0 rfl (.inl rfl)) ev_int (fun _ _ => rfl)))) ev_int) ea_nil)) (ev_bin op_dAdd (ev_bin op_dPow ev_int ev_int) ev_int)))
    (es_cons (es_set (i := 3) sc__law_scoop.nd rfl (.inl rfl) (ev_bin op_dMod (ev_ct ct_intU (by rfl) (fr_int X G c) boot_int (ea_cons (ev_bin op_dPow (ev_bin op_dAdd (ev_var 3 rfl (.inl rfl)) (ev_bin op_dMul ev_int (ev_ix (ev_var 0 rfl (.inl rfl)) ev_int (fun _ _ => rfl)))) ev_int) ea_nil)) (ev_bin op_dAdd (ev_bin op_dPow ev_int ev_int) ev_int)))
    (es_one (es_ret (ev_bin op_dMod (ev_ct ct_intU (by rfl) (fr_int X G c) boot_int (ea_cons (ev_bin op_dDiv (ev_var 3 rfl (.inl rfl)) ev_int) ea_nil)) (ev_var 1 rfl (.inl rfl)))))))))
theorem okS__law_scans (X : K.In h) (G : h.Ns mainGlobals mg) (c : SaysW fa pr op bn xf fn K) {k : Nat} (hk : 0 ≤ k) {hh : List D → M D} (oh : FnB P w K mg base k "_law_scans" ["nodes"] (spD K (TT K) 1 hh)) : FnB P w K mg base (k + 1) "_law_scans" ["nodes"] (spD K (TT K) 1 (gS__law_scans hh)) :=
  fnB (c.def_ 20 (d := d__law_scans) rfl) (He.glo_ok X G (c.fact 23 (f := .glo "_law_scans") rfl)) (fun fd F => FunD.bindsN F fun _ _ _ _ _ _ us hl => match us, hl with | [_], _ => rfl) fun fd F =>
    fn_D F sc__law_scans fun cdv A outer s H E hr nr =>
    (es_cons (es_set (i := 1) sc__law_scans.nd rfl (.inl rfl) (ev_frz (evL_lst ea_nil)))
    (es_cons (es_for PassesOwn.never rfl (ei_seq (ev_var 0 rfl (.inl rfl))) (eg_name 2 sc__law_scans.nd rfl (.inl rfl)) (es_one (es_set (i := 1) sc__law_scans.nd rfl (.inl rfl) (ev_bin op_dAdd (ev_var 1 rfl (.inl rfl)) (ev_ifExp (ev_cmpT (op_dEq hr.units) rfl (ev_ix (ev_var 2 rfl (.inl rfl)) ev_int (fun _ _ => rfl)) (ev_str (by decide +kernel))) (ev_callB oh hr (by omega) nr (by rfl) (ea_cons (ev_ix (ev_var 2 rfl (.inl rfl)) ev_int (fun _ _ => rfl)) ea_nil)) (ev_frz (evL_lst (ea_cons (ev_slice (ev_var 2 rfl (.inl rfl)) (eo_some ev_int) eo_none) ea_nil))))))))
    (es_one (es_ret (ev_var 1 rfl (.inl rfl))))))
theorem ok__law_scans (X : K.In h) (G : h.Ns mainGlobals mg) (c : SaysW fa pr op bn xf fn K) : (n : Nat) → FnB P w K mg base (0 + 1 * n) "_law_scans" ["nodes"] (spD K (TT K) 1 (g__law_scans n))
  | 0 => fnB_stk (c.def_ 20 (d := d__law_scans) rfl) (He.glo_ok X G (c.fact 23 (f := .glo "_law_scans") rfl)) (fun fd F => FunD.bindsN F fun _ _ _ _ _ _ us hl => match us, hl with | [_], _ => rfl)
  | n + 1 => fnB_lv (by omega) (okS__law_scans X G c (k := 0 + 1 * n) (by omega) (ok__law_scans X G c n))
theorem okS__law_nodes (X : K.In h) (G : h.Ns mainGlobals mg) (c : SaysW fa pr op bn xf fn K) {k : Nat} (hk : 8 ≤ k) {hh : List D → M D} (oh : FnB P w K mg base k "_law_nodes" ["kettle", "most", "deep", "wide", "high"] (spD K (TT K) 5 hh)) : FnB P w K mg base (k + 1) "_law_nodes" ["kettle", "most", "deep", "wide", "high"] (spD K (TT K) 5 (gS__law_nodes hh)) :=
  fnB (c.def_ 21 (d := d__law_nodes) rfl) (He.glo_ok X G (c.fact 24 (f := .glo "_law_nodes") rfl)) (fun fd F => FunD.bindsN F fun _ _ _ _ _ _ us hl => match us, hl with | [_, _, _, _, _], _ => rfl) fun fd F =>
    fn_D F sc__law_nodes fun cdv A outer s H E hr nr =>
    (es_cons (es_par (i := 5) (j := 6) rfl sc__law_nodes.nd rfl rfl (by decide) rfl rfl (ea_cons (ev_cell (evL_lst ea_nil)) (ea_cons (ev_bin op_dAdd ev_int (ev_callB (ok__law_scoop X G c) hr (by omega) nr (by rfl) (ea_cons (ev_var 0 rfl (.inl rfl)) (ea_cons (ev_var 1 rfl (.inl rfl)) ea_nil)))) ea_nil)) rfl)
    (es_cons (es_while PassesOwn.never (ev_cmpT op_dGt rfl (ev_var 6 rfl (.inl rfl)) ev_int) (es_one (es_if (evt_of (evw_and (ev_cmpT op_dGt rfl (ev_var 2 rfl (.inl rfl)) ev_int) (evw_and1 (ev_cmpT (op_dEq hr.units) rfl (ev_callB (ok__law_scoop X G c) hr (by omega) nr (by rfl) (ea_cons (ev_var 0 rfl (.inl rfl)) (ea_cons ev_int ea_nil))) ev_int)))) (es_cons (es_set (i := 7) sc__law_nodes.nd rfl (.inl rfl) (ev_callB oh hr (by omega) nr (by rfl) (ea_cons (ev_var 0 rfl (.inl rfl)) (ea_cons (ev_var 6 rfl (.inl rfl)) (ea_cons (ev_bin op_dSub (ev_var 2 rfl (.inl rfl)) ev_int) (ea_cons (ev_var 3 rfl (.inl rfl)) (ea_cons (ev_var 4 rfl (.inl rfl)) ea_nil)))))))
    (es_cons (es_expr (ev_meth PySem.F.plainAttrs_list PySem.F.slot_list_append PySem.F.type_list_append mt_mAppend (ev_var 5 rfl (.inl rfl)) (ea_cons (ev_tup (ea_cons (ev_str (by decide +kernel)) (ea_cons (ev_var 7 rfl (.inl rfl)) (ea_cons (ev_bin op_dAdd ev_int (ev_callB (ok__law_scoop X G c) hr (by omega) nr (by rfl) (ea_cons (ev_var 0 rfl (.inl rfl)) (ea_cons (ev_var 4 rfl (.inl rfl)) ea_nil)))) ea_nil)))) ea_nil)))
    (es_one (es_set (i := 6) sc__law_nodes.nd rfl (.inl rfl) (ev_bin op_dSub (ev_var 6 rfl (.inl rfl)) (ev_cb cb_len (by rfl) (fr_len X G c) boot_len (ea_cons (ev_callB (ok__law_scans X G c 8) hr (by omega) nr (by rfl) (ea_cons (ev_var 7 rfl (.inl rfl)) ea_nil)) ea_nil))))))) (es_cons (es_par3 (i := 8) (j := 9) (l := 10) rfl sc__law_nodes.nd rfl rfl rfl (by decide) (by decide) (by decide) rfl rfl rfl (ea_cons (ev_callB (ok__law_scoop X G c) hr (by omega) nr (by rfl) (ea_cons (ev_var 0 rfl (.inl rfl)) (ea_cons (ev_var 3 rfl (.inl rfl)) ea_nil))) (ea_cons (ev_callB (ok__law_scoop X G c) hr (by omega) nr (by rfl) (ea_cons (ev_var 0 rfl (.inl rfl)) (ea_cons (ev_var 3 rfl (.inl rfl)) ea_nil))) (ea_cons (ev_callB (ok__law_scoop X G c) hr (by omega) nr (by rfl) (ea_cons (ev_var 0 rfl (.inl rfl)) (ea_cons ev_int ea_nil))) ea_nil))) rfl)
    (es_cons (es_expr (ev_meth PySem.F.plainAttrs_list PySem.F.slot_list_append PySem.F.type_list_append mt_mAppend (ev_var 5 rfl (.inl rfl)) (ea_cons (ev_tup (ea_cons (ev_str (by decide +kernel)) (ea_cons (ev_var 8 rfl (.inl rfl)) (ea_cons (ev_ix (ev_frz (evL_lst (ea_cons (ev_var 9 rfl (.inl rfl)) (ea_cons (ev_var 9 rfl (.inl rfl)) (ea_cons (ev_var 9 rfl (.inl rfl)) (ea_cons (ev_var 8 rfl (.inl rfl)) (ea_cons (ev_cb (cb_min2 rfl) (by rfl) (fr_min X G c) boot_min (ea_cons (ev_bin op_dSub (ev_var 3 rfl (.inl rfl)) ev_int) (ea_cons (ev_bin op_dAdd (ev_var 8 rfl (.inl rfl)) ev_int) ea_nil))) ea_nil))))))) (ev_var 10 rfl (.inl rfl)) (fun _ _ => rfl)) ea_nil)))) ea_nil)))
    (es_one (es_set (i := 6) sc__law_nodes.nd rfl (.inl rfl) (ev_bin op_dSub (ev_var 6 rfl (.inl rfl)) ev_int))))))))
    (es_one (es_ret (ev_var 5 rfl (.inl rfl))))))
theorem ok__law_nodes (X : K.In h) (G : h.Ns mainGlobals mg) (c : SaysW fa pr op bn xf fn K) : (n : Nat) → FnB P w K mg base (8 + 1 * n) "_law_nodes" ["kettle", "most", "deep", "wide", "high"] (spD K (TT K) 5 (g__law_nodes n))
  | 0 => fnB_stk (c.def_ 21 (d := d__law_nodes) rfl) (He.glo_ok X G (c.fact 24 (f := .glo "_law_nodes") rfl)) (fun fd F => FunD.bindsN F fun _ _ _ _ _ _ us hl => match us, hl with | [_, _, _, _, _], _ => rfl)
  | n + 1 => fnB_lv (by omega) (okS__law_nodes X G c (k := 8 + 1 * n) (by omega) (ok__law_nodes X G c n))
theorem okS__law_length (X : K.In h) (G : h.Ns mainGlobals mg) (c : SaysW fa pr op bn xf fn K) {k : Nat} (hk : 0 ≤ k) {hh : List D → M D} (oh : FnB P w K mg base k "_law_length" ["nodes"] (spD K (TT K) 1 hh)) : FnB P w K mg base (k + 1) "_law_length" ["nodes"] (spD K (TT K) 1 (gS__law_length hh)) :=
  fnB (c.def_ 22 (d := d__law_length) rfl) (He.glo_ok X G (c.fact 25 (f := .glo "_law_length") rfl)) (fun fd F => FunD.bindsN F fun _ _ _ _ _ _ us hl => match us, hl with | [_], _ => rfl) fun fd F =>
    fn_D F sc__law_length fun cdv A outer s H E hr nr =>
    (es_cons (es_set (i := 1) sc__law_length.nd rfl (.inl rfl) ev_int)
    (es_cons (es_for PassesOwn.never rfl (ei_seq (ev_var 0 rfl (.inl rfl))) (eg_name 2 sc__law_length.nd rfl (.inl rfl)) (es_one (es_if (ev_cmpT (op_dEq hr.units) rfl (ev_ix (ev_var 2 rfl (.inl rfl)) ev_int (fun _ _ => rfl)) (ev_str (by decide +kernel))) (es_one (es_set (i := 1) sc__law_length.nd rfl (.inl rfl) (ev_bin op_dAdd (ev_var 1 rfl (.inl rfl)) (ev_bin op_dMul (ev_callB oh hr (by omega) nr (by rfl) (ea_cons (ev_ix (ev_var 2 rfl (.inl rfl)) ev_int (fun _ _ => rfl)) ea_nil)) (ev_ix (ev_var 2 rfl (.inl rfl)) ev_int (fun _ _ => rfl)))))) (es_one (es_set (i := 1) sc__law_length.nd rfl (.inl rfl) (ev_bin op_dAdd (ev_bin op_dAdd (ev_var 1 rfl (.inl rfl)) (ev_cb cb_abs (by rfl) (fr_abs X G c) boot_abs (ea_cons (ev_bin op_dSub (ev_ix (ev_var 2 rfl (.inl rfl)) ev_int (fun _ _ => rfl)) (ev_ix (ev_var 2 rfl (.inl rfl)) ev_int (fun _ _ => rfl))) ea_nil))) ev_int))))))
    (es_one (es_ret (ev_var 1 rfl (.inl rfl))))))
theorem ok__law_length (X : K.In h) (G : h.Ns mainGlobals mg) (c : SaysW fa pr op bn xf fn K) : (n : Nat) → FnB P w K mg base (0 + 1 * n) "_law_length" ["nodes"] (spD K (TT K) 1 (g__law_length n))
  | 0 => fnB_stk (c.def_ 22 (d := d__law_length) rfl) (He.glo_ok X G (c.fact 25 (f := .glo "_law_length") rfl)) (fun fd F => FunD.bindsN F fun _ _ _ _ _ _ us hl => match us, hl with | [_], _ => rfl)
  | n + 1 => fnB_lv (by omega) (okS__law_length X G c (k := 0 + 1 * n) (by omega) (ok__law_length X G c n))
theorem ok__law_small (X : K.In h) (G : h.Ns mainGlobals mg) (c : SaysW fa pr op bn xf fn K) : FnB P w K mg base 17 "_law_small" ["kettle", "most", "deep", "wide", "limit"] (spD K (TT K) 5 g__law_small) :=
  fnB (c.def_ 23 (d := d__law_small) rfl) (He.glo_ok X G (c.fact 26 (f := .glo "_law_small") rfl)) (fun fd F => FunD.bindsN F fun _ _ _ _ _ _ us hl => match us, hl with | [_, _, _, _, _], _ => rfl) fun fd F =>
    fn_D F sc__law_small fun cdv A outer s H E hr nr =>
    (es_cons (es_set (i := 5) sc__law_small.nd rfl (.inl rfl) (ev_callB (ok__law_nodes X G c 8) hr (by decide) nr (by rfl) (ea_cons (ev_var 0 rfl (.inl rfl)) (ea_cons (ev_var 1 rfl (.inl rfl)) (ea_cons (ev_var 2 rfl (.inl rfl)) (ea_cons (ev_var 3 rfl (.inl rfl)) (ea_cons ev_int ea_nil)))))))
    (es_cons (es_while PassesOwn.never (ev_cmpT op_dGt rfl (ev_callB (ok__law_length X G c 8) hr (by decide) nr (by rfl) (ea_cons (ev_var 5 rfl (.inl rfl)) ea_nil)) (ev_var 4 rfl (.inl rfl))) (es_one (es_set (i := 5) sc__law_small.nd rfl (.inl rfl) (ev_ifExp (ev_cmpT op_dGt rfl (ev_cb cb_len (by rfl) (fr_len X G c) boot_len (ea_cons (ev_var 5 rfl (.inl rfl)) ea_nil)) ev_int) (ev_slice (ev_var 5 rfl (.inl rfl)) eo_none (eo_some (ev_un un_dNeg ev_int))) (ev_frz (evL_lst (ea_cons (ev_tup (ea_cons (ev_str (by decide +kernel)) (ea_cons ev_int (ea_cons (ev_cb (cb_min2 rfl) (by rfl) (fr_min X G c) boot_min (ea_cons (ev_bin op_dSub (ev_var 3 rfl (.inl rfl)) ev_int) (ea_cons ev_int ea_nil))) ea_nil)))) ea_nil)))))))
    (es_one (es_ret (ev_var 5 rfl (.inl rfl))))))
theorem okS__law_words (X : K.In h) (G : h.Ns mainGlobals mg) (c : SaysW fa pr op bn xf fn K) {k : Nat} (hk : 0 ≤ k) {hh : List D → M D} (oh : FnB P w K mg base k "_law_words" ["nodes"] (spD K (TT K) 1 hh)) : FnB P w K mg base (k + 1) "_law_words" ["nodes"] (spD K (TT K) 1 (gS__law_words hh)) :=
  fnB (c.def_ 24 (d := d__law_words) rfl) (He.glo_ok X G (c.fact 27 (f := .glo "_law_words") rfl)) (fun fd F => FunD.bindsN F fun _ _ _ _ _ _ us hl => match us, hl with | [_], _ => rfl) fun fd F =>
    fn_D F sc__law_words fun cdv A outer s H E hr nr =>
    (es_cons (es_set (i := 1) sc__law_words.nd rfl (.inl rfl) (ev_cell (evL_lst ea_nil)))
    (es_cons (es_for PassesOwn.never rfl (ei_seq (ev_var 0 rfl (.inl rfl))) (eg_name 2 sc__law_words.nd rfl (.inl rfl)) (es_one (es_if (ev_cmpT (op_dEq hr.units) rfl (ev_ix (ev_var 2 rfl (.inl rfl)) ev_int (fun _ _ => rfl)) (ev_str (by decide +kernel))) (es_one (es_set (i := 1) sc__law_words.nd rfl (.inl rfl) (ev_cell (evL_bin op_catL (ev_bin op_dAdd (ev_bin op_dAdd (ev_var 1 rfl (.inl rfl)) (ev_frz (evL_lst (ea_cons (ev_str (by decide +kernel)) ea_nil)))) (ev_callB oh hr (by omega) nr (by rfl) (ea_cons (ev_ix (ev_var 2 rfl (.inl rfl)) ev_int (fun _ _ => rfl)) ea_nil))) (ev_frz (evL_lst (ea_cons (ev_bin op_dAdd (ev_str (by decide +kernel)) (ev_ct ct_str (by rfl) (fr_str X G c) boot_str (ea_cons (ev_ix (ev_var 2 rfl (.inl rfl)) ev_int (fun _ _ => rfl)) ea_nil))) ea_nil))))))) (es_one (es_expr (ev_meth PySem.F.plainAttrs_list PySem.F.slot_list_append PySem.F.type_list_append mt_mAppend (ev_var 1 rfl (.inl rfl)) (ea_cons (ev_bin op_dAdd (ev_ct ct_str (by rfl) (fr_str X G c) boot_str (ea_cons (ev_ix (ev_var 2 rfl (.inl rfl)) ev_int (fun _ _ => rfl)) ea_nil)) (ev_ifExp (ev_cmpT (op_dNe hr.units) rfl (ev_ix (ev_var 2 rfl (.inl rfl)) ev_int (fun _ _ => rfl)) (ev_ix (ev_var 2 rfl (.inl rfl)) ev_int (fun _ _ => rfl))) (ev_bin op_dAdd (ev_str (by decide +kernel)) (ev_ct ct_str (by rfl) (fr_str X G c) boot_str (ea_cons (ev_ix (ev_var 2 rfl (.inl rfl)) ev_int (fun _ _ => rfl)) ea_nil))) (ev_str (by decide +kernel)))) ea_nil)))))))
    (es_one (es_ret (ev_var 1 rfl (.inl rfl))))))
theorem ok__law_words (X : K.In h) (G : h.Ns mainGlobals mg) (c : SaysW fa pr op bn xf fn K) : (n : Nat) → FnB P w K mg base (0 + 1 * n) "_law_words" ["nodes"] (spD K (TT K) 1 (g__law_words n))
  | 0 => fnB_stk (c.def_ 24 (d := d__law_words) rfl) (He.glo_ok X G (c.fact 27 (f := .glo "_law_words") rfl)) (fun fd F => FunD.bindsN F fun _ _ _ _ _ _ us hl => match us, hl with | [_], _ => rfl)
  | n + 1 => fnB_lv (by omega) (okS__law_words X G c (k := 0 + 1 * n) (by omega) (ok__law_words X G c n))
theorem ok__law_made (X : K.In h) (G : h.Ns mainGlobals mg) (c : SaysW fa pr op bn xf fn K) : FnB P w K mg base 15 "_law_made" ["nodes"] (spD K (TT K) 1 g__law_made) :=
  fnB (c.def_ 25 (d := d__law_made) rfl) (He.glo_ok X G (c.fact 28 (f := .glo "_law_made") rfl)) (fun fd F => FunD.bindsN F fun _ _ _ _ _ _ us hl => match us, hl with | [_], _ => rfl) fun fd F =>
    fn_D F sc__law_made fun cdv A outer s H E hr nr =>
    (es_one (es_ret (ev_makeA (NM := NMf) (c := 1) (ok_Program___init__ X G c) hr (by decide) nr rfl (He.mkr_ok (c.fact 6 rfl)) (He.glo_ok X G (c.fact 5 rfl)) (by rfl) (ea_cons (ev_meth PySem.F.plainAttrs_str PySem.F.slot_str_join PySem.F.type_str_join mt_mJoin (ev_str (by decide +kernel)) (ea_cons (ev_callB (ok__law_words X G c 8) hr (by decide) nr (by rfl) (ea_cons (ev_var 0 rfl (.inl rfl)) ea_nil)) ea_nil)) ea_nil))))
theorem okS__law_reads (X : K.In h) (G : h.Ns mainGlobals mg) (c : SaysW fa pr op bn xf fn K) {k : Nat} (hk : 0 ≤ k) {hh : List D → M (List D)} (oh : FnB P w K mg base k "_law_reads" ["nodes"] (spL K (TT K) 1 hh)) : FnB P w K mg base (k + 1) "_law_reads" ["nodes"] (spL K (TT K) 1 (gS__law_reads hh)) :=
  fnB (c.def_ 26 (d := d__law_reads) rfl) (He.glo_ok X G (c.fact 29 (f := .glo "_law_reads") rfl)) (fun fd F => FunD.bindsN F fun _ _ _ _ _ _ us hl => match us, hl with | [_], _ => rfl) fun fd F =>
    fn_L F sc__law_reads fun cdv A outer s H E hr nr =>
    (es_cons (es_set (i := 1) sc__law_reads.nd rfl (.inl rfl) (ev_cell (evL_lst ea_nil)))
    (es_cons (es_for PassesOwn.never rfl (ei_seq (ev_var 0 rfl (.inl rfl))) (eg_name 2 sc__law_reads.nd rfl (.inr rfl)) (es_one (es_if (ev_cmpT (op_dEq hr.units) rfl (ev_ix (ev_var 2 rfl (.inr (.inl rfl))) ev_int (fun _ _ => rfl)) (ev_str (by decide +kernel))) (es_one (es_set (i := 1) sc__law_reads.nd rfl (.inl rfl) (ev_cell (evL_bin op_catL (ev_var 1 rfl (.inl rfl)) (ev_frz (evL_rep (evL_callB oh hr (by omega) nr (by rfl) (ea_cons (ev_ix (ev_var 2 rfl (.inr (.inl rfl))) ev_int (fun _ _ => rfl)) ea_nil)) (ev_ix (ev_var 2 rfl (.inr (.inl rfl))) ev_int (fun _ _ => rfl)))))))) (es_cons (es_set (i := 3) sc__law_reads.nd rfl (.inr rfl) (ev_ifExp (ev_cmpT op_dLe rfl (ev_ix (ev_var 2 rfl (.inr (.inl rfl))) ev_int (fun _ _ => rfl)) (ev_ix (ev_var 2 rfl (.inr (.inl rfl))) ev_int (fun _ _ => rfl))) ev_int (ev_un un_dNeg ev_int)))
    (es_one (es_set (i := 1) sc__law_reads.nd rfl (.inl rfl) (ev_cell (evL_bin op_catL (ev_var 1 rfl (.inl rfl)) (ev_frz (evL_lc (own := [("spot", 4)]) rfl sc__law_reads.nd (ei_range1 (by rfl) (fr_range X G c) (ea_cons (ev_bin op_dAdd (ev_cb cb_abs (by rfl) (fr_abs X G c) boot_abs (ea_cons (ev_bin op_dSub (ev_ix (ev_var 2 rfl (.inr (.inl rfl))) ev_int (fun _ _ => rfl)) (ev_ix (ev_var 2 rfl (.inr (.inl rfl))) ev_int (fun _ _ => rfl))) ea_nil)) ev_int) ea_nil)) (blkOk_by (N := N__law_reads) (sc := (defScope s__law_reads)) (own := [("spot", 4)]) (by decide +kernel)) (fun _ _ _ _ _ => (eg_name 4 sc__law_reads.nd rfl (.inl rfl))) (fun _ _ _ _ _ => ets_nil) (fun _ _ _ _ _ => (ev_bin op_dAdd (ev_ix (ev_var 2 rfl (.inr (.inl rfl))) ev_int (fun _ _ => rfl)) (ev_bin op_dMul (ev_var 3 rfl (.inr (.inl rfl))) (ev_var 4 rfl (.inl rfl)))))))))))))))
    (es_one (es_ret (ev_var 1 rfl (.inl rfl))))))
theorem ok__law_reads (X : K.In h) (G : h.Ns mainGlobals mg) (c : SaysW fa pr op bn xf fn K) : (n : Nat) → FnB P w K mg base (0 + 1 * n) "_law_reads" ["nodes"] (spL K (TT K) 1 (g__law_reads n))
  | 0 => fnB_stkL (c.def_ 26 (d := d__law_reads) rfl) (He.glo_ok X G (c.fact 29 (f := .glo "_law_reads") rfl)) (fun fd F => FunD.bindsN F fun _ _ _ _ _ _ us hl => match us, hl with | [_], _ => rfl)
  | n + 1 => fnB_lv (by omega) (okS__law_reads X G c (k := 0 + 1 * n) (by omega) (ok__law_reads X G c n))
theorem ok__law_few (X : K.In h) (G : h.Ns mainGlobals mg) (c : SaysW fa pr op bn xf fn K) : FnB P w K mg base 2 "_law_few" ["kettle", "many", "low"] (spD K (TT K) 3 g__law_few) :=
  fnB (c.def_ 27 (d := d__law_few) rfl) (He.glo_ok X G (c.fact 30 (f := .glo "_law_few") rfl)) (fun fd F => FunD.bindsN F fun _ _ _ _ _ _ us hl => match us, hl with | [_, _, _], _ => rfl) fun fd F =>
    fn_D F sc__law_few fun cdv A outer s H E hr nr =>
    (es_one (es_ret (ev_frz (evL_lc (own := [("turn", 3)]) rfl sc__law_few.nd (ei_range1 (by rfl) (fr_range X G c) (ea_cons (ev_var 1 rfl (.inl rfl)) ea_nil)) (blkOk_by (N := N__law_few) (sc := (defScope s__law_few)) (own := [("turn", 3)]) (by decide +kernel)) (fun _ _ _ _ _ => (eg_name 3 sc__law_few.nd rfl (.inl rfl))) (fun _ _ _ _ _ => ets_nil) (fun _ _ _ _ _ => (ev_tup (ea_cons (ev_str (by decide +kernel)) (ea_cons (ev_bin op_dAdd (ev_var 2 rfl (.inr (.inl rfl))) (ev_callB (ok__law_scoop X G c) hr (by decide) nr (by rfl) (ea_cons (ev_var 0 rfl (.inr (.inl rfl))) (ea_cons ev_int ea_nil)))) (ea_cons (ev_bin op_dAdd (ev_var 2 rfl (.inr (.inl rfl))) (ev_callB (ok__law_scoop X G c) hr (by decide) nr (by rfl) (ea_cons (ev_var 0 rfl (.inr (.inl rfl))) (ea_cons ev_int ea_nil)))) ea_nil)))))))))
theorem ok__law_wide (X : K.In h) (G : h.Ns mainGlobals mg) (c : SaysW fa pr op bn xf fn K) : FnB P w K mg base 3 "_law_wide" ["kettle"] (spD K (TT K) 1 g__law_wide) :=
  fnB (c.def_ 28 (d := d__law_wide) rfl) (He.glo_ok X G (c.fact 31 (f := .glo "_law_wide") rfl)) (fun fd F => FunD.bindsN F fun _ _ _ _ _ _ us hl => match us, hl with | [_], _ => rfl) fun fd F =>
    fn_D F sc__law_wide fun cdv A outer s H E hr nr =>
    (es_cons (es_set (i := 1) sc__law_wide.nd rfl (.inl rfl) (ev_callB (ok__law_few X G c) hr (by decide) nr (by rfl) (ea_cons (ev_var 0 rfl (.inl rfl)) (ea_cons ev_int (ea_cons ev_int ea_nil)))))
    (es_cons (es_for PassesOwn.never rfl (ei_range1 (by rfl) (fr_range X G c) (ea_cons ev_int ea_nil)) (eg_name 2 sc__law_wide.nd rfl (.inl rfl)) (es_one (es_set (i := 1) sc__law_wide.nd rfl (.inl rfl) (ev_bin op_dAdd (ev_frz (evL_lst (ea_cons (ev_tup (ea_cons (ev_str (by decide +kernel)) (ea_cons (ev_var 1 rfl (.inl rfl)) (ea_cons ev_int ea_nil)))) ea_nil))) (ev_callB (ok__law_few X G c) hr (by decide) nr (by rfl) (ea_cons (ev_var 0 rfl (.inl rfl)) (ea_cons ev_int (ea_cons ev_int ea_nil))))))))
    (es_one (es_ret (ev_frz (evL_lst (ea_cons (ev_tup (ea_cons (ev_str (by decide +kernel)) (ea_cons (ev_var 1 rfl (.inl rfl)) (ea_cons ev_int ea_nil)))) ea_nil)))))))
theorem fnG_law (X : K.In h) (G : h.Ns mainGlobals mg) (c : SaysW fa pr op bn xf fn K) (fd : FuncData) (F : FunD K "law" "law" (defArgs s_law) (defBody s_law) (defScope s_law) [] [] (He.ga K "law") fd) : FnG P w K mg base 19 (He.ga K "law") fd ["script"] (spD K (TT K) 1 g_law) :=
    fn_D F sc_law fun cdv A outer s H E hr nr =>
    (es_cons (es_for PassesOwn.never rfl (ei_range1 (by rfl) (fr_range X G c) (ea_cons (ev_cb (cb_max2 rfl) (by rfl) (fr_max X G c) boot_max (ea_cons ev_int (ea_cons (ev_cb (cb_min2 rfl) (by rfl) (fr_min X G c) boot_min (ea_cons ev_int (ea_cons (ev_cb cb_len (by rfl) (fr_len X G c) boot_len (ea_cons (ev_var 0 rfl (.inl rfl)) ea_nil)) ea_nil))) ea_nil))) ea_nil)) (eg_name 1 sc_law.nd rfl (.inl rfl)) (es_cons (es_set (i := 2) sc_law.nd rfl (.inl rfl) (ev_cell (evL_callB (ok__law_kettle X G c) hr (by decide) nr (by rfl) (ea_cons (ev_var 0 rfl (.inl rfl)) (ea_cons (ev_var 1 rfl (.inl rfl)) ea_nil)))))
    (es_one (es_for PassesOwn.never rfl (ei_range1 (by rfl) (fr_range X G c) (ea_cons (ev_ix (ev_frz (evL_lst (ea_cons ev_int (ea_cons ev_int ea_nil)))) (ev_ct ct_intU (by rfl) (fr_int X G c) boot_int (ea_cons (ev_cmp (op_dEq hr.units) rfl (ev_var 1 rfl (.inl rfl)) ev_int) ea_nil)) (fun _ _ => rfl)) ea_nil)) (eg_name 3 sc_law.nd rfl (.inl rfl)) (es_cons (es_set (i := 4) sc_law.nd rfl (.inl rfl) (ev_callB (ok__law_small X G c) hr (by decide) nr (by rfl) (ea_cons (ev_var 2 rfl (.inl rfl)) (ea_cons (ev_ix (ev_frz (evL_lst (ea_cons ev_int (ea_cons ev_int ea_nil)))) (ev_callB (ok__law_scoop X G c) hr (by decide) nr (by rfl) (ea_cons (ev_var 2 rfl (.inl rfl)) (ea_cons ev_int ea_nil))) (fun _ _ => rfl)) (ea_cons ev_int (ea_cons (ev_ix (ev_frz (evL_lst (ea_cons ev_int (ea_cons ev_int ea_nil)))) (ev_callB (ok__law_scoop X G c) hr (by decide) nr (by rfl) (ea_cons (ev_var 2 rfl (.inl rfl)) (ea_cons ev_int ea_nil))) (fun _ _ => rfl)) (ea_cons ev_int ea_nil)))))))
    (es_cons (es_asg (ev_tup (ea_cons (ev_callB (ok__law_made X G c) hr (by decide) nr (by rfl) (ea_cons (ev_var 4 rfl (.inl rfl)) ea_nil)) (ea_cons (ev_frz (evL_callB (ok__law_reads X G c 8) hr (by decide) nr (by rfl) (ea_cons (ev_var 4 rfl (.inl rfl)) ea_nil))) ea_nil))) (eg_tup rfl (egs_cons (eg_name 5 sc_law.nd rfl (.inr rfl)) (egs_cons (eg_name 6 sc_law.nd rfl (.inr rfl)) egs_nil))))
    (es_cons (es_set (i := 7) sc_law.nd rfl (.inl rfl) (ev_cell (evL_callB (ok_written X G c) hr (by decide) nr (by rfl) (ea_cons (ev_var 5 rfl (.inr (.inl rfl))) ea_nil))))
    (es_cons (es_if (ev_cmpT (op_dNe hr.units) rfl (ev_cb (cb_repr hr.units nr) (by rfl) (fr_repr X G c) boot_repr (ea_cons (ev_var 7 rfl (.inl rfl)) ea_nil)) (ev_cb (cb_repr hr.units nr) (by rfl) (fr_repr X G c) boot_repr (ea_cons (ev_var 6 rfl (.inr (.inl rfl))) ea_nil))) (es_one (es_ret ev_bl)) es_nil)
    (es_cons (es_expr (ev_meth PySem.F.plainAttrs_list PySem.F.slot_list_append PySem.F.type_list_append mt_mAppend (ev_var 7 rfl (.inl rfl)) (ea_cons ev_int ea_nil)))
    (es_cons (es_if (evt_of (evw_or (ev_cmpT (op_dNe hr.units) rfl (ev_frz (evL_callB (ok_written X G c) hr (by decide) nr (by rfl) (ea_cons (ev_var 5 rfl (.inr (.inl rfl))) ea_nil))) (ev_var 6 rfl (.inr (.inl rfl)))) (evw_or (ev_cmpT (op_dNe hr.units) rfl (ev_propA (NM := NMf) (c := 1) (ok_Program_accesses X G c) hr (by decide) nr rfl (He.cls_ok (c.fact 3 rfl)) (c.prop 0 (p := ⟨"Program", "accesses"⟩) rfl) (ev_var 5 rfl (.inr (.inl rfl)))) (ev_cb cb_len (by rfl) (fr_len X G c) boot_len (ea_cons (ev_var 6 rfl (.inr (.inl rfl))) ea_nil))) (evw_or1 (ev_cmpTM (op_neA (c := 1) (ok_Program___eq__ X G c) hr (by decide) nr (c.own 0 (p := ⟨"Program", "__eq__"⟩) rfl) (neF_Program c)) rfl (ev_var 5 rfl (.inr (.inl rfl))) (ev_callB (ok__law_made X G c) hr (by decide) nr (by rfl) (ea_cons (ev_var 4 rfl (.inl rfl)) ea_nil))))))) (es_one (es_ret ev_bl)) es_nil)
    (es_one (es_if (ev_cmpT (op_dNe hr.units) rfl (ev_frz (evL_lc (own := [("spot", 8)]) rfl sc_law.nd (ei_range1 (by rfl) (fr_range X G c) (ea_cons (ev_cb cb_len (by rfl) (fr_len X G c) boot_len (ea_cons (ev_var 6 rfl (.inr (.inl rfl))) ea_nil)) ea_nil)) (blkOk_by (N := N_law) (sc := (defScope s_law)) (own := [("spot", 8)]) (by decide +kernel)) (fun _ _ _ _ _ => (eg_name 8 sc_law.nd rfl (.inl rfl))) (fun _ _ _ _ _ => (ets_one (ev_cmpT (op_dNe hr.units) rfl (ev_cb (cb_repr hr.units nr) (by rfl) (fr_repr X G c) boot_repr (ea_cons (ev_callB (ok_address_at X G c) hr (by decide) nr (by rfl) (ea_cons (ev_var 5 rfl (.inr (.inl rfl))) (ea_cons (ev_var 8 rfl (.inl rfl)) ea_nil))) ea_nil)) (ev_cb (cb_repr hr.units nr) (by rfl) (fr_repr X G c) boot_repr (ea_cons (ev_ix (ev_var 6 rfl (.inr (.inl rfl))) (ev_var 8 rfl (.inl rfl)) (fun _ _ => rfl)) ea_nil))))) (fun _ _ _ _ _ => (ev_var 8 rfl (.inl rfl))))) (ev_frz (evL_lst ea_nil))) (es_one (es_ret ev_bl)) es_nil))))))))))))
    (es_cons (es_set (i := 2) sc_law.nd rfl (.inl rfl) (ev_cell (evL_callB (ok__law_kettle X G c) hr (by decide) nr (by rfl) (ea_cons (ev_var 0 rfl (.inl rfl)) (ea_cons ev_int ea_nil)))))
    (es_cons (es_set (i := 4) sc_law.nd rfl (.inl rfl) (ev_callB (ok__law_wide X G c) hr (by decide) nr (by rfl) (ea_cons (ev_var 2 rfl (.inl rfl)) ea_nil)))
    (es_cons (es_asg (ev_tup (ea_cons (ev_callB (ok__law_made X G c) hr (by decide) nr (by rfl) (ea_cons (ev_var 4 rfl (.inl rfl)) ea_nil)) (ea_cons (ev_frz (evL_callB (ok__law_reads X G c 8) hr (by decide) nr (by rfl) (ea_cons (ev_var 4 rfl (.inl rfl)) ea_nil))) ea_nil))) (eg_tup rfl (egs_cons (eg_name 5 sc_law.nd rfl (.inr rfl)) (egs_cons (eg_name 6 sc_law.nd rfl (.inr rfl)) egs_nil))))
    (es_cons (es_if (ev_cmpT (op_dNe hr.units) rfl (ev_frz (evL_callB (ok_written X G c) hr (by decide) nr (by rfl) (ea_cons (ev_var 5 rfl (.inr (.inl rfl))) ea_nil))) (ev_var 6 rfl (.inr (.inl rfl)))) (es_one (es_ret ev_bl)) es_nil)
    (es_cons (es_for PassesOwn.never rfl (ei_range1 (by rfl) (fr_range X G c) (ea_cons ev_int ea_nil)) (eg_name 3 sc_law.nd rfl (.inl rfl)) (es_cons (es_set (i := 8) sc_law.nd rfl (.inl rfl) (ev_callB (ok__law_scoop X G c) hr (by decide) nr (by rfl) (ea_cons (ev_var 2 rfl (.inl rfl)) (ea_cons (ev_cb cb_len (by rfl) (fr_len X G c) boot_len (ea_cons (ev_var 6 rfl (.inr (.inl rfl))) ea_nil)) ea_nil))))
    (es_one (es_if (ev_cmpT (op_dNe hr.units) rfl (ev_callB (ok_address_at X G c) hr (by decide) nr (by rfl) (ea_cons (ev_var 5 rfl (.inr (.inl rfl))) (ea_cons (ev_var 8 rfl (.inl rfl)) ea_nil))) (ev_ix (ev_var 6 rfl (.inr (.inl rfl))) (ev_var 8 rfl (.inl rfl)) (fun _ _ => rfl))) (es_one (es_ret ev_bl)) es_nil))))
    (es_cons (es_set (i := 9) sc_law.nd rfl (.inl rfl) (ev_makeA (NM := NMf) (c := 1) (ok_Program___init__ X G c) hr (by decide) nr rfl (He.mkr_ok (c.fact 6 rfl)) (He.glo_ok X G (c.fact 5 rfl)) (by rfl) (ea_cons (ev_str (by decide +kernel)) ea_nil)))
    (es_cons (es_if (ev_cmpT (op_dNe hr.units) rfl (ev_frz (evL_callB (ok_written X G c) hr (by decide) nr (by rfl) (ea_cons (ev_var 9 rfl (.inl rfl)) ea_nil))) (ev_frz (evL_rep (evL_listRange rfl (by rfl) (fr_list X G c) (prgC (by rfl) (fr_range X G c) (ea_cons ev_int ea_nil))) ev_int))) (es_one (es_ret ev_bl)) es_nil)
    (es_one (es_ret (ev_cmp (op_dEq hr.units) rfl (ev_frz (evL_lst (ea_cons (ev_cb cb_len (by rfl) (fr_len X G c) boot_len (ea_cons (ev_frz (evL_callB (ok_written X G c) hr (by decide) nr (by rfl) (ea_cons (ev_var 9 rfl (.inl rfl)) ea_nil))) ea_nil)) (ea_cons (ev_frz (evL_callB (ok_written X G c) hr (by decide) nr (by rfl) (ea_cons (ev_makeA (NM := NMf) (c := 1) (ok_Program___init__ X G c) hr (by decide) nr rfl (He.mkr_ok (c.fact 6 rfl)) (He.glo_ok X G (c.fact 5 rfl)) (by rfl) (ea_cons (ev_str (by decide +kernel)) ea_nil)) ea_nil))) (ea_cons (ev_frz (evL_callB (ok_written X G c) hr (by decide) nr (by rfl) (ea_cons (ev_makeA (NM := NMf) (c := 1) (ok_Program___init__ X G c) hr (by decide) nr rfl (He.mkr_ok (c.fact 6 rfl)) (He.glo_ok X G (c.fact 5 rfl)) (by rfl) (ea_cons (ev_str (by decide +kernel)) ea_nil)) ea_nil))) ea_nil))))) (ev_frz (evL_lst (ea_cons ev_int (ea_cons (ev_frz (evL_lst ea_nil)) (ea_cons (ev_frz (evL_lst (ea_cons ev_int (ea_cons ev_int (ea_cons ev_int (ea_cons ev_int ea_nil)))))) ea_nil))))))))))))))))
end
/-! ### fields and methods by forms -/
section
variable {S : Cells} {l : List D}
theorem ff_Nodes_held {x0 : D} : fldD NMf [0] "held" (.obj 0 [x0]) S = some x0 := nrfl rfl
theorem ff_Program_own_nodes {x0 : D} : fldD NMf [1] "own_nodes" (.obj 1 [x0]) S = some x0 := nrfl rfl
theorem fm_Program_accesses : isC NMf 1 "accesses" (.obj 1 l) S = some () := by
  unfold isC
  exact if_pos ⟨rfl, by decide +kernel⟩
theorem isf_Nodes_Nodes : isiCD tab_Nodes (.obj 0 l) S = some (.bl true) := nrfl rfl
theorem isf_Nodes_Program : isiCD tab_Nodes (.obj 1 l) S = some (.bl false) := nrfl rfl
theorem isf_Nodes_0s {x : PySem.Str} : isiCD tab_Nodes (.str x) S = some (.bl false) := nrfl rfl
theorem isf_Nodes_0i {i : Int} : isiCD tab_Nodes (.int i) S = some (.bl false) := nrfl rfl
theorem isf_Nodes_0l {i : List D} : isiCD tab_Nodes (.lst i) S = some (.bl false) := nrfl rfl
theorem isf_Nodes_0t {i : List D} : isiCD tab_Nodes (.tup i) S = some (.bl false) := nrfl rfl
theorem isf_Nodes_0n : isiCD tab_Nodes .non S = some (.bl false) := nrfl rfl
theorem isf_Nodes_0b {b : Bool} : isiCD tab_Nodes (.bl b) S = some (.bl false) := nrfl rfl
theorem isf_Program_Nodes : isiCD tab_Program (.obj 0 l) S = some (.bl false) := nrfl rfl
theorem isf_Program_Program : isiCD tab_Program (.obj 1 l) S = some (.bl true) := nrfl rfl
theorem isf_Program_0s {x : PySem.Str} : isiCD tab_Program (.str x) S = some (.bl false) := nrfl rfl
theorem isf_Program_0i {i : Int} : isiCD tab_Program (.int i) S = some (.bl false) := nrfl rfl
theorem isf_Program_0l {i : List D} : isiCD tab_Program (.lst i) S = some (.bl false) := nrfl rfl
theorem isf_Program_0t {i : List D} : isiCD tab_Program (.tup i) S = some (.bl false) := nrfl rfl
theorem isf_Program_0n : isiCD tab_Program .non S = some (.bl false) := nrfl rfl
theorem isf_Program_0b {b : Bool} : isiCD tab_Program (.bl b) S = some (.bl false) := nrfl rfl
end
end K26
end
section
set_option maxHeartbeats 4000000
set_option exponentiation.threshold 3000
namespace K26
open PySem PySem.Spec L2 DL
open PyProof.Rows hiding St
open Lean in
local macro_rules | `(tactic| push_cast [$ts,*]) => `(tactic| simp only [↓DL.r0, ↓DL.r1, ↓DL.r2, ↓DL.r3, ↓DL.r4, ↓DL.r5, ↓DL.r6, ↓DL.r7, ↓DL.r8, ↓DL.r9, ↓DL.r10, ↓DL.r11, ↓DL.r12, ↓DL.r13, ↓DL.r14, ↓DL.r15, ↓DL.r16, ↓DL.r17, ↓DL.r18, ↓DL.r19, ↓DL.r20, ↓DL.r21, ↓DL.r22, ↓DL.r23, ↓DL.r24, ↓DL.r25, ↓DL.r26, ↓DL.r27, ↓DL.r28, ↓DL.r29, DL.s0, DL.s1, DL.s2, DL.s3, DL.s4, DL.s5, DL.s6, DL.s7, DL.s8, DL.s9, DL.s10, DL.s11, DL.s12, DL.s13, DL.s14, DL.s15, DL.s16, DL.s17, DL.s18, DL.s19, DL.s20, DL.s21, DL.s22, DL.s23, DL.s24, DL.s25, DL.s26, DL.s27, DL.s28, DL.s29, DL.startD_cons, DL.startD_nil, DL.startD_zero, ↓DL.w_ok, ↓DL.w_some, ↓DL.w_somec, ↓DL.w_bind, ↓DL.w_opt, ↓DL.w_chg, ↓DL.w_kon, ↓DL.w_calm, ↓DL.w_b2, ↓DL.w_b2L, ↓DL.w_b1, ↓DL.wB_bl, ↓DL.w_asB, ↓DL.w_b2T, ↓DL.w_chE, ↓DL.w_chT, ↓DL.w_not, ↓DL.w_val, ↓DL.w_notE, ↓DL.w_ifE, ↓DL.w_ifL, ↓DL.w_andM, ↓DL.w_orM, ↓DL.w_andE, ↓DL.w_orE, ↓DL.w_nil, ↓DL.w_cons, ↓DL.w_tup, ↓DL.w_lst, ↓DL.w_frz, ↓DL.w_new, ↓DL.w_cel, ↓DL.w_cb, ↓DL.w_cbL, ↓DL.w_call, ↓DL.w_callL, ↓DL.w_ar0, ↓DL.w_ar1, ↓DL.w_ar2, ↓DL.w_ar3, ↓DL.w_ar4, ↓DL.w_ar5, ↓DL.w_ar6, ↓DL.w_noO, ↓DL.w_smO, ↓DL.w_sl, ↓DL.w_slL, ↓DL.w_rev, ↓DL.w_step, ↓DL.w_isi, ↓DL.w_sets, ↓DL.w_lrg, ↓DL.w_mth, ↓DL.w_mth0, ↓DL.w_itS, ↓DL.w_itR1, ↓DL.w_itR2, ↓DL.w_itR3, ↓DL.w_itZ, ↓DL.w_itN, ↓DL.w_lc, ↓DL.w_nx, ↓DL.w_rt, ↓DL.w_seq, ↓DL.w_set, ↓DL.wPar_2, ↓DL.w_par, ↓DL.w_aug, ↓DL.w_sto, ↓DL.w_exp, ↓DL.w_ret, ↓DL.w_retN, ↓DL.w_nxS, ↓DL.w_ifS, ↓DL.w_for, ↓DL.w_asg, ↓DL.w_stk, ↓DL.w_body, ↓DL.w_bodyL, ↓DL.wret_non, ↓DL.wret_bl, ↓DL.wret_int, ↓DL.wret_str, ↓DL.wif_t, ↓DL.wif_f, ↓DL.wif_d, ↓DL.wif_n, ↓DL.wif_a, ↓DL.wif_o, DL.few0, DL.few1, DL.few2, DL.few3, DL.few4, DL.few5, DL.few6, DL.few7, DL.few8, DL.few9, DL.few10, true_and, and_true, ↓DL.a_nm, ↓DL.a_tp1, ↓DL.a_tp2, ↓DL.a_tp3, ↓DL.a_tp4, ↓DL.a_tp5, ↓DL.a_tpn, ↓DL.a_tpm, ↓DL.a_encP, DL.wipe_nil, DL.wipe_cons, DL.o_add, DL.o_sub, DL.o_neg, ↓DL.o_mul, ↓DL.o_div, ↓DL.o_mod, DL.o_pow, ↓DL.o_p10_3, ↓DL.o_p10_4, ↓DL.o_p10_6, ↓DL.o_p10_8, ↓DL.o_p10_9, ↓DL.o_p10_12, ↓DL.o_p10_15, ↓DL.o_p10_18, ↓DL.o_p10_20, ↓DL.o_p10_25, ↓DL.o_p10_26, ↓DL.o_p10_27, ↓DL.o_p10_28, ↓DL.o_p10_29, ↓DL.o_p10_30, ↓DL.o_p10_31, ↓DL.o_p10_36, ↓DL.o_p10_38, ↓DL.o_p10_40, ↓DL.o_p10_42, ↓DL.o_p10_44, ↓DL.o_p10_46, ↓DL.o_p10_48, ↓DL.o_p10_50, ↓DL.o_p10_60, ↓DL.o_p10_64, ↓DL.o_p10_70, ↓DL.o_p10_90, ↓DL.o_p10_99, ↓DL.o_p10_100, ↓DL.o_addS, ↓DL.o_addT, ↓DL.o_catL, ↓DL.o_addL, DL.o_lt, DL.o_le, DL.o_gt, DL.o_ge, DL.o_eqI, DL.o_neI, DL.o_eqS, DL.o_neS, DL.o_is, DL.o_isn, DL.n_non, DL.n_bl, DL.n_int, DL.n_str, DL.n_lst, DL.n_tup, DL.n_ref, DL.n_obj, DL.i_non_int, DL.i_non_bool, DL.i_non_str, DL.i_non_list, DL.i_non_tuple, DL.i_bl_int, DL.i_bl_bool, DL.i_bl_str, DL.i_bl_list, DL.i_bl_tuple, DL.i_int_int, DL.i_int_bool, DL.i_int_str, DL.i_int_list, DL.i_int_tuple, DL.i_str_int, DL.i_str_bool, DL.i_str_str, DL.i_str_list, DL.i_str_tuple, DL.i_lst_int, DL.i_lst_bool, DL.i_lst_str, DL.i_lst_list, DL.i_lst_tuple, DL.i_tup_int, DL.i_tup_bool, DL.i_tup_str, DL.i_tup_list, DL.i_tup_tuple, DL.t_non, DL.t_bl, DL.t_int, DL.t_lst, DL.t_tup, ↓DL.x_lst, ↓DL.x_tup, ↓DL.x_encP0, ↓DL.x_encP1, DL.ixn1_0, DL.ixn1_m1, DL.ixn2_0, DL.ixn2_1, DL.ixn2_m1, DL.ixn3_0, DL.ixn3_1, DL.ixn3_2, DL.ixn3_m1, DL.ixn4_0, DL.ixn4_1, DL.ixn4_2, DL.ixn4_3, DL.ixn4_m1, DL.ixn5_0, DL.ixn5_1, DL.ixn5_2, DL.ixn5_3, DL.ixn5_4, DL.ixn5_m1, DL.ixn6_0, DL.ixn6_1, DL.ixn6_2, DL.ixn6_3, DL.ixn6_4, DL.ixn6_5, DL.ixn6_m1, DL.ixn7_0, DL.ixn7_1, DL.ixn7_2, DL.ixn7_3, DL.ixn7_4, DL.ixn7_5, DL.ixn7_6, DL.ixn7_m1, DL.ixn8_0, DL.ixn8_1, DL.ixn8_2, DL.ixn8_3, DL.ixn8_4, DL.ixn8_5, DL.ixn8_6, DL.ixn8_7, DL.ixn8_m1, ↓DL.x1_0, ↓DL.x1_m1, ↓DL.x2_0, ↓DL.x2_1, ↓DL.x2_m1, ↓DL.x3_0, ↓DL.x3_1, ↓DL.x3_2, ↓DL.x3_m1, ↓DL.x4_0, ↓DL.x4_1, ↓DL.x4_2, ↓DL.x4_3, ↓DL.x4_m1, ↓DL.x5_0, ↓DL.x5_1, ↓DL.x5_2, ↓DL.x5_3, ↓DL.x5_4, ↓DL.x5_m1, ↓DL.x6_0, ↓DL.x6_1, ↓DL.x6_2, ↓DL.x6_3, ↓DL.x6_4, ↓DL.x6_5, ↓DL.x6_m1, ↓DL.x7_0, ↓DL.x7_1, ↓DL.x7_2, ↓DL.x7_3, ↓DL.x7_4, ↓DL.x7_5, ↓DL.x7_6, ↓DL.x7_m1, ↓DL.x8_0, ↓DL.x8_1, ↓DL.x8_2, ↓DL.x8_3, ↓DL.x8_4, ↓DL.x8_5, ↓DL.x8_6, ↓DL.x8_7, ↓DL.x8_m1, DL.c_abs, DL.c_max2, DL.c_min2, DL.c_int, DL.c_intb, DL.c_lenS, DL.c_lenT, DL.c_lenL, DL.c_listT, DL.c_listL, DL.c_tupT, DL.c_tupL, DL.c_sum, DL.c_sum0, DL.c_all, DL.c_any, DL.c_minP, DL.c_maxP, DL.c_sortP, DL.c_zip, DL.c_enum, DL.c_range1, DL.c_range2, DL.g_lst, DL.g_tup, DL.g_str, DL.p_int, DL.sq_lst, DL.sl_lst, DL.sl_tup, DL.sl_str, DL.slL_lst, DL.om_some, List.set_cons_zero, List.set_cons_succ, DL.m_tyL, DL.m_tyS, DL.m_ty, DL.m_app, DL.m_sto, DL.m_fzL, DL.m_fzI, DL.m_fzT, DL.m_fz, DL.x_ref, DL.c_lenR, DL.c_listR, DL.c_tupR, DL.sl_ref, DL.atL_new, DL.atL_new1, DL.atL_new2, DL.atL_old, DL.set_new, DL.set_new1, DL.set_new2, DL.set_old, DL.take_app, DL.app_app, DL.cons_app, DL.nil_app, DL.len_app1, DL.len_app2, DL.len_app3, DL.len_set, DL.seq_new, DL.seq_new1, DL.seq_new2, DL.seq_old, DL.ex_some, DL.fl_non, DL.fl_int, DL.fl_bl, DL.fl_str, DL.fl_tup, DL.fl_lst, DL.fl_obj, DL.fl_nil, DL.fl_cons, DL.fl_app, DL.fl_encP, Bool.and_self, Bool.and_true, Bool.true_and, List.set_set, ↓DL.w_yes, ↓DL.w_fld, ↓DL.w_mt, ↓DL.w_mtL, ↓DL.w_mt0, ↓DL.w_mt0L, ↓DL.w_ic, DL.isO_obj, ↓DL.w_make, ↓DL.w_b2M, ↓DL.w_b2MT, DL.c_intU, DL.c_intbU, ↓DL.w_mthL, ↓DL.w_uM, ↓DL.w_inv, ↓DL.w_bin_obj, ↓DL.w_bin_int, ↓DL.w_fldS, DL.m_fld, DL.atI_new, DL.putD, ↓DL.w_repL, ↓DL.w_isiC, ↓DL.w_par3, ↓DL.wPar3_3, DL.m_count, DL.wretL_new, DL.wret_new, ↓DL.c_setSort, DL.o_addI, DL.o_inS, DL.o_ninS, ↓DL.c_str, ↓DL.c_intSw, ↓DL.m_ext, DL.slt_l, DL.slt_t, DL.slt_r, ↓DL.c_dm, ↓DL.c_split, ↓DL.c_join, ↓DL.c_rep, ↓DL.x_str, ↓DL.o_catRL, ↓DL.o_addRL, ↓DL.wret_tup, ↓DL.wret_lst, List.take_length, List.length_cons, List.length_nil, List.length_map, Int.cast_ofNat_Int, Bool.not_true, Bool.not_false, Int.reduceAdd, Int.reduceSub, Int.reduceMul, Int.reduceNeg, Int.reduceEq, Int.reduceLT, Int.reduceLE, Nat.reduceAdd, Nat.reduceSub, eq_self, not_true_eq_false, not_false_eq_true, false_implies, implies_true, true_implies, ff_Nodes_held, ff_Program_own_nodes, fm_Program_accesses, isf_Nodes_Nodes, isf_Nodes_Program, isf_Nodes_0s, isf_Nodes_0i, isf_Nodes_0l, isf_Nodes_0t, isf_Nodes_0n, isf_Nodes_0b, isf_Program_Nodes, isf_Program_Program, isf_Program_0s, isf_Program_0i, isf_Program_0l, isf_Program_0t, isf_Program_0n, isf_Program_0b, $ts,*])
open Lean in
local macro_rules | `(tactic| push_cast) => `(tactic| simp only [↓DL.r0, ↓DL.r1, ↓DL.r2, ↓DL.r3, ↓DL.r4, ↓DL.r5, ↓DL.r6, ↓DL.r7, ↓DL.r8, ↓DL.r9, ↓DL.r10, ↓DL.r11, ↓DL.r12, ↓DL.r13, ↓DL.r14, ↓DL.r15, ↓DL.r16, ↓DL.r17, ↓DL.r18, ↓DL.r19, ↓DL.r20, ↓DL.r21, ↓DL.r22, ↓DL.r23, ↓DL.r24, ↓DL.r25, ↓DL.r26, ↓DL.r27, ↓DL.r28, ↓DL.r29, DL.s0, DL.s1, DL.s2, DL.s3, DL.s4, DL.s5, DL.s6, DL.s7, DL.s8, DL.s9, DL.s10, DL.s11, DL.s12, DL.s13, DL.s14, DL.s15, DL.s16, DL.s17, DL.s18, DL.s19, DL.s20, DL.s21, DL.s22, DL.s23, DL.s24, DL.s25, DL.s26, DL.s27, DL.s28, DL.s29, DL.startD_cons, DL.startD_nil, DL.startD_zero, ↓DL.w_ok, ↓DL.w_some, ↓DL.w_somec, ↓DL.w_bind, ↓DL.w_opt, ↓DL.w_chg, ↓DL.w_kon, ↓DL.w_calm, ↓DL.w_b2, ↓DL.w_b2L, ↓DL.w_b1, ↓DL.wB_bl, ↓DL.w_asB, ↓DL.w_b2T, ↓DL.w_chE, ↓DL.w_chT, ↓DL.w_not, ↓DL.w_val, ↓DL.w_notE, ↓DL.w_ifE, ↓DL.w_ifL, ↓DL.w_andM, ↓DL.w_orM, ↓DL.w_andE, ↓DL.w_orE, ↓DL.w_nil, ↓DL.w_cons, ↓DL.w_tup, ↓DL.w_lst, ↓DL.w_frz, ↓DL.w_new, ↓DL.w_cel, ↓DL.w_cb, ↓DL.w_cbL, ↓DL.w_call, ↓DL.w_callL, ↓DL.w_ar0, ↓DL.w_ar1, ↓DL.w_ar2, ↓DL.w_ar3, ↓DL.w_ar4, ↓DL.w_ar5, ↓DL.w_ar6, ↓DL.w_noO, ↓DL.w_smO, ↓DL.w_sl, ↓DL.w_slL, ↓DL.w_rev, ↓DL.w_step, ↓DL.w_isi, ↓DL.w_sets, ↓DL.w_lrg, ↓DL.w_mth, ↓DL.w_mth0, ↓DL.w_itS, ↓DL.w_itR1, ↓DL.w_itR2, ↓DL.w_itR3, ↓DL.w_itZ, ↓DL.w_itN, ↓DL.w_lc, ↓DL.w_nx, ↓DL.w_rt, ↓DL.w_seq, ↓DL.w_set, ↓DL.wPar_2, ↓DL.w_par, ↓DL.w_aug, ↓DL.w_sto, ↓DL.w_exp, ↓DL.w_ret, ↓DL.w_retN, ↓DL.w_nxS, ↓DL.w_ifS, ↓DL.w_for, ↓DL.w_asg, ↓DL.w_stk, ↓DL.w_body, ↓DL.w_bodyL, ↓DL.wret_non, ↓DL.wret_bl, ↓DL.wret_int, ↓DL.wret_str, ↓DL.wif_t, ↓DL.wif_f, ↓DL.wif_d, ↓DL.wif_n, ↓DL.wif_a, ↓DL.wif_o, DL.few0, DL.few1, DL.few2, DL.few3, DL.few4, DL.few5, DL.few6, DL.few7, DL.few8, DL.few9, DL.few10, true_and, and_true, ↓DL.a_nm, ↓DL.a_tp1, ↓DL.a_tp2, ↓DL.a_tp3, ↓DL.a_tp4, ↓DL.a_tp5, ↓DL.a_tpn, ↓DL.a_tpm, ↓DL.a_encP, DL.wipe_nil, DL.wipe_cons, DL.o_add, DL.o_sub, DL.o_neg, ↓DL.o_mul, ↓DL.o_div, ↓DL.o_mod, DL.o_pow, ↓DL.o_p10_3, ↓DL.o_p10_4, ↓DL.o_p10_6, ↓DL.o_p10_8, ↓DL.o_p10_9, ↓DL.o_p10_12, ↓DL.o_p10_15, ↓DL.o_p10_18, ↓DL.o_p10_20, ↓DL.o_p10_25, ↓DL.o_p10_26, ↓DL.o_p10_27, ↓DL.o_p10_28, ↓DL.o_p10_29, ↓DL.o_p10_30, ↓DL.o_p10_31, ↓DL.o_p10_36, ↓DL.o_p10_38, ↓DL.o_p10_40, ↓DL.o_p10_42, ↓DL.o_p10_44, ↓DL.o_p10_46, ↓DL.o_p10_48, ↓DL.o_p10_50, ↓DL.o_p10_60, ↓DL.o_p10_64, ↓DL.o_p10_70, ↓DL.o_p10_90, ↓DL.o_p10_99, ↓DL.o_p10_100, ↓DL.o_addS, ↓DL.o_addT, ↓DL.o_catL, ↓DL.o_addL, DL.o_lt, DL.o_le, DL.o_gt, DL.o_ge, DL.o_eqI, DL.o_neI, DL.o_eqS, DL.o_neS, DL.o_is, DL.o_isn, DL.n_non, DL.n_bl, DL.n_int, DL.n_str, DL.n_lst, DL.n_tup, DL.n_ref, DL.n_obj, DL.i_non_int, DL.i_non_bool, DL.i_non_str, DL.i_non_list, DL.i_non_tuple, DL.i_bl_int, DL.i_bl_bool, DL.i_bl_str, DL.i_bl_list, DL.i_bl_tuple, DL.i_int_int, DL.i_int_bool, DL.i_int_str, DL.i_int_list, DL.i_int_tuple, DL.i_str_int, DL.i_str_bool, DL.i_str_str, DL.i_str_list, DL.i_str_tuple, DL.i_lst_int, DL.i_lst_bool, DL.i_lst_str, DL.i_lst_list, DL.i_lst_tuple, DL.i_tup_int, DL.i_tup_bool, DL.i_tup_str, DL.i_tup_list, DL.i_tup_tuple, DL.t_non, DL.t_bl, DL.t_int, DL.t_lst, DL.t_tup, ↓DL.x_lst, ↓DL.x_tup, ↓DL.x_encP0, ↓DL.x_encP1, DL.ixn1_0, DL.ixn1_m1, DL.ixn2_0, DL.ixn2_1, DL.ixn2_m1, DL.ixn3_0, DL.ixn3_1, DL.ixn3_2, DL.ixn3_m1, DL.ixn4_0, DL.ixn4_1, DL.ixn4_2, DL.ixn4_3, DL.ixn4_m1, DL.ixn5_0, DL.ixn5_1, DL.ixn5_2, DL.ixn5_3, DL.ixn5_4, DL.ixn5_m1, DL.ixn6_0, DL.ixn6_1, DL.ixn6_2, DL.ixn6_3, DL.ixn6_4, DL.ixn6_5, DL.ixn6_m1, DL.ixn7_0, DL.ixn7_1, DL.ixn7_2, DL.ixn7_3, DL.ixn7_4, DL.ixn7_5, DL.ixn7_6, DL.ixn7_m1, DL.ixn8_0, DL.ixn8_1, DL.ixn8_2, DL.ixn8_3, DL.ixn8_4, DL.ixn8_5, DL.ixn8_6, DL.ixn8_7, DL.ixn8_m1, ↓DL.x1_0, ↓DL.x1_m1, ↓DL.x2_0, ↓DL.x2_1, ↓DL.x2_m1, ↓DL.x3_0, ↓DL.x3_1, ↓DL.x3_2, ↓DL.x3_m1, ↓DL.x4_0, ↓DL.x4_1, ↓DL.x4_2, ↓DL.x4_3, ↓DL.x4_m1, ↓DL.x5_0, ↓DL.x5_1, ↓DL.x5_2, ↓DL.x5_3, ↓DL.x5_4, ↓DL.x5_m1, ↓DL.x6_0, ↓DL.x6_1, ↓DL.x6_2, ↓DL.x6_3, ↓DL.x6_4, ↓DL.x6_5, ↓DL.x6_m1, ↓DL.x7_0, ↓DL.x7_1, ↓DL.x7_2, ↓DL.x7_3, ↓DL.x7_4, ↓DL.x7_5, ↓DL.x7_6, ↓DL.x7_m1, ↓DL.x8_0, ↓DL.x8_1, ↓DL.x8_2, ↓DL.x8_3, ↓DL.x8_4, ↓DL.x8_5, ↓DL.x8_6, ↓DL.x8_7, ↓DL.x8_m1, DL.c_abs, DL.c_max2, DL.c_min2, DL.c_int, DL.c_intb, DL.c_lenS, DL.c_lenT, DL.c_lenL, DL.c_listT, DL.c_listL, DL.c_tupT, DL.c_tupL, DL.c_sum, DL.c_sum0, DL.c_all, DL.c_any, DL.c_minP, DL.c_maxP, DL.c_sortP, DL.c_zip, DL.c_enum, DL.c_range1, DL.c_range2, DL.g_lst, DL.g_tup, DL.g_str, DL.p_int, DL.sq_lst, DL.sl_lst, DL.sl_tup, DL.sl_str, DL.slL_lst, DL.om_some, List.set_cons_zero, List.set_cons_succ, DL.m_tyL, DL.m_tyS, DL.m_ty, DL.m_app, DL.m_sto, DL.m_fzL, DL.m_fzI, DL.m_fzT, DL.m_fz, DL.x_ref, DL.c_lenR, DL.c_listR, DL.c_tupR, DL.sl_ref, DL.atL_new, DL.atL_new1, DL.atL_new2, DL.atL_old, DL.set_new, DL.set_new1, DL.set_new2, DL.set_old, DL.take_app, DL.app_app, DL.cons_app, DL.nil_app, DL.len_app1, DL.len_app2, DL.len_app3, DL.len_set, DL.seq_new, DL.seq_new1, DL.seq_new2, DL.seq_old, DL.ex_some, DL.fl_non, DL.fl_int, DL.fl_bl, DL.fl_str, DL.fl_tup, DL.fl_lst, DL.fl_obj, DL.fl_nil, DL.fl_cons, DL.fl_app, DL.fl_encP, Bool.and_self, Bool.and_true, Bool.true_and, List.set_set, ↓DL.w_yes, ↓DL.w_fld, ↓DL.w_mt, ↓DL.w_mtL, ↓DL.w_mt0, ↓DL.w_mt0L, ↓DL.w_ic, DL.isO_obj, ↓DL.w_make, ↓DL.w_b2M, ↓DL.w_b2MT, DL.c_intU, DL.c_intbU, ↓DL.w_mthL, ↓DL.w_uM, ↓DL.w_inv, ↓DL.w_bin_obj, ↓DL.w_bin_int, ↓DL.w_fldS, DL.m_fld, DL.atI_new, DL.putD, ↓DL.w_repL, ↓DL.w_isiC, ↓DL.w_par3, ↓DL.wPar3_3, DL.m_count, DL.wretL_new, DL.wret_new, ↓DL.c_setSort, DL.o_addI, DL.o_inS, DL.o_ninS, ↓DL.c_str, ↓DL.c_intSw, ↓DL.m_ext, DL.slt_l, DL.slt_t, DL.slt_r, ↓DL.c_dm, ↓DL.c_split, ↓DL.c_join, ↓DL.c_rep, ↓DL.x_str, ↓DL.o_catRL, ↓DL.o_addRL, ↓DL.wret_tup, ↓DL.wret_lst, List.take_length, List.length_cons, List.length_nil, List.length_map, Int.cast_ofNat_Int, Bool.not_true, Bool.not_false, Int.reduceAdd, Int.reduceSub, Int.reduceMul, Int.reduceNeg, Int.reduceEq, Int.reduceLT, Int.reduceLE, Nat.reduceAdd, Nat.reduceSub, eq_self, not_true_eq_false, not_false_eq_true, false_implies, implies_true, true_implies, ff_Nodes_held, ff_Program_own_nodes, fm_Program_accesses, isf_Nodes_Nodes, isf_Nodes_Program, isf_Nodes_0s, isf_Nodes_0i, isf_Nodes_0l, isf_Nodes_0t, isf_Nodes_0n, isf_Nodes_0b, isf_Program_Nodes, isf_Program_Program, isf_Program_0s, isf_Program_0i, isf_Program_0l, isf_Program_0t, isf_Program_0n, isf_Program_0b])
/-! texts of programs: numbers, scans -/
open MT MN
section
variable {S : Cells}
theorem z24 : sizeLine = 16777216 := by decide
theorem is_int_int (i : Int) : g_is_int [.int i] S = .ok (.bl true) S := by
  refine wp_ok ?_
  push_cast [g_is_int, B_is_int]
theorem in_range_ok {i lo hi : Int} (h : lo ≤ i) (h2 : i ≤ hi) : g_in_range [.int i, .int lo, .int hi] S = .ok (.bl true) S := by
  refine wp_ok ?_
  push_cast [g_in_range, B_in_range, is_int_int, decide_eq_true h, decide_eq_true h2]
theorem in_range_lo {i lo : Int} (h : lo ≤ i) : g_in_range [.int i, .int lo, .non] S = .ok (.bl true) S := by
  refine wp_ok ?_
  push_cast [g_in_range, B_in_range, is_int_int, decide_eq_true h]
theorem L_dig : L "0123456789" = [48, 49, 50, 51, 52, 53, 54, 55, 56, 57] := by decide +kernel
theorem L_0 : L "0" = [48] := by decide +kernel
theorem L_nil : L "" = [] := by decide +kernel
theorem e_par : ("(" : Str) = ch 40 := by decide +kernel
theorem e_rap : (")" : Str) = ch 41 := by decide +kernel
theorem e_dash : ("-" : Str) = ch 45 := by decide +kernel
theorem e_gap : (" " : Str) = ch 32 := by decide +kernel
theorem signs_L (x : Str) : signsD x = (L x).map fun c => D.str (ch c) := rfl
theorem number_in_ok {i low : Int} (h0 : 0 ≤ i) (h : low ≤ i) (h1 : i ≤ (1000000000000000000000000000000 : Int)) : g_number_in [.str (num i), .int low] S = .ok (.int i) S := by
  have hl := num_len h0 (by decide : 1 ≤ 31) (by omega)
  have hn := num_reads h0 (by omega)
  have hne : num i ≠ "" := num_ne_nil h0 L_nil
  obtain ⟨m, rfl⟩ := Int.eq_ofNat_of_zero_le h0
  refine wp_ok ?_
  push_cast [g_number_in, B_number_in]
  refine ⟨fun q => absurd q hne, fun _ => ⟨fun q => by omega, fun _ => ?_⟩⟩
  rw [signs_L]
  refine comp_map_wp (fun c => D.str (ch c)) (fun c => .bl (inS (ch c) "0123456789")) _ (fun c hc => ?_) ?_
  · unfold cStep
    push_cast
  have ha : (L (num (m : Nat))).all (fun c => inS (ch c) "0123456789") = true := by
    rw [List.all_eq_true]
    intro c hc
    rw [inS_one, L_dig]
    rw [L_num] at hc
    have := dg_digits m c hc
    refine decide_eq_true ?_
    simp
    omega
  push_cast [ha]
  have hz : ∃ c r, dg m = c :: r := by
    cases e : dg m with
    | nil => exact absurd e (dg_ne m)
    | cons c r => exact ⟨c, r, rfl⟩
  obtain ⟨c, r, hc⟩ := hz
  have e0 : atI (num (m : Nat)).cps.toList 0 = some c := by rw [show (num (m : Nat)).cps.toList = dg m from L_num m, hc]; exact atI_nat (j := 0) (show (c :: r)[0]? = some c from rfl)
  have d0 : num (m : Nat) = ("0" : Str) ∨ ¬ (⟨#[c]⟩ : Str) = "0" := by
    by_cases z : c = 48
    · left
      have := dg_head m c r hc z
      subst this
      refine ext ?_
      rw [L_num, L_0]
      decide +kernel
    · right
      intro e
      have := congrArg L e
      rw [L_0] at this
      injection this with this _
      exact z this
  refine ⟨c, e0, ?_⟩
  rcases d0 with d0 | d0
  · push_cast [in_range_ok h h1, hn]
    exact ⟨fun _ => ⟨fun _ => ⟨by omega, by omega⟩, fun q => absurd d0 q⟩, fun _ => ⟨by omega, by omega⟩⟩
  · push_cast [in_range_ok h h1, hn]
    exact ⟨fun q => absurd q d0, fun _ => ⟨by omega, by omega⟩⟩
theorem num_noD {a : Int} (ha : 0 ≤ a) : inS (ch 45) (num a) = false := by
  obtain ⟨m, rfl⟩ := Int.eq_ofNat_of_zero_le ha
  rw [inS_one]
  exact decide_eq_false (num_free (by omega))
theorem join2 (x y : Str) : Str.join (ch 45) [x, y] = x ++ ch 45 ++ y := rfl
theorem scan_in_ok {a b : Int} (ha : 0 ≤ a ∧ a ≤ (1000000000000000000000000000000 : Int)) (hb : 0 ≤ b ∧ b ≤ (1000000000000000000000000000000 : Int)) : g_scan_in [.str (wd a b)] S = .ok (.tup [.int a, .int b]) S := by
  have hlen := wd_len (a := a) (b := b) (by omega) (by omega)
  refine wp_ok ?_
  rw [show g_scan_in = bodyD 5 B_scan_in from rfl]
  push_cast [B_scan_in, e_dash]
  by_cases hab : a = b
  · subst hab
    have hw : wd a a = num a := if_pos rfl
    push_cast [hw, num_noD ha.1, number_in_ok ha.1 ha.1 ha.2]
  · have hw : wd a b = num a ++ ch 45 ++ num b := if_neg hab
    have hin : inS (ch 45) (wd a b) = true := by
      rw [inS_one]
      refine decide_eq_true ?_
      rw [hw, L_app, L_app]
      simp [ch, L]
    have hsp : Txt.split (wd a b) (ch 45) = [num a, num b] := by
      rw [hw, ← join2]
      refine split_join (fun w h => ?_) (by simp)
      obtain ⟨m, rfl⟩ := Int.eq_ofNat_of_zero_le ha.1
      obtain ⟨n, rfl⟩ := Int.eq_ofNat_of_zero_le hb.1
      simp only [List.mem_cons, List.not_mem_nil, or_false] at h
      rcases h with h | h <;> subst h <;> exact num_free (by omega)
    have l1 := num_len ha.1 (by decide : 1 ≤ 31) (by omega)
    have l2 := num_len hb.1 (by decide : 1 ≤ 31) (by omega)
    push_cast [hin, hsp]
    have zz := z24
    refine ⟨⟨by decide, by omega, by simp [z24], fun z hz => ?_⟩, ?_⟩
    · simp only [List.mem_cons, List.not_mem_nil, or_false] at hz
      rcases hz with hz | hz <;> subst hz <;> omega
    rw [show List.map D.str [num a, num b] = [a, b].map fun i => D.str (num i) from rfl]
    refine comp_map_wp (fun i => D.str (num i)) (fun i => D.int i) [a, b] (fun i hi => ?_) ?_
    · simp only [List.mem_cons, List.not_mem_nil, or_false] at hi
      have h0 : 0 ≤ i ∧ i ≤ (1000000000000000000000000000000 : Int) := by rcases hi with e | e <;> subst e <;> assumption
      unfold cStep
      push_cast [number_in_ok h0.1 h0.1 h0.2]
    push_cast [List.map_cons, List.map_nil]
    have nn : dInU .non (.lst [.int a, .int b]) S = some (.bl false) := by
      have e1 : vw S .non = some .none := rfl
      have e2 : vw S (.lst [.int a, .int b]) = some (.list [.int a, .int b]) := rfl
      show (inP .non (.lst [.int a, .int b]) S).map D.bl = _
      unfold inP
      rw [e1, e2]
      rfl
    have h2 : ((Txt.split (wd a b) (ch 45)).length : Int) = 2 := by rw [hsp]; rfl
    push_cast [nn, List.map_cons, List.map_nil]
    exact ⟨fun _ q => absurd q hab, fun q => absurd h2 q⟩
/-- the words of a list of nodes -/
theorem wds_ok {w h : Int} : ∀ n l, dps l ≤ n → oks w h l → w ≤ (1000000000000000000000000000000 : Int) + 1 → h ≤ (1000000000000000000000000000000 : Int) → ∀ x ∈ wdss l, x.length ≤ 63 ∧ 32 ∉ L x ∧ x ≠ "" := by
  have one : ∀ n : Nat, (∀ l, dps l < n → oks w h l → w ≤ (1000000000000000000000000000000 : Int) + 1 → h ≤ (1000000000000000000000000000000 : Int) → ∀ x ∈ wdss l, x.length ≤ 63 ∧ 32 ∉ L x ∧ x ≠ "") → ∀ l, dps l ≤ n → oks w h l → w ≤ (1000000000000000000000000000000 : Int) + 1 → h ≤ (1000000000000000000000000000000 : Int) → ∀ x ∈ wdss l, x.length ≤ 63 ∧ 32 ∉ L x ∧ x ≠ "" := by
    intro n ihn l hl k hw hh
    induction l with
    | nil => intro x hx; rw [wdss] at hx; simp at hx
    | cons m l ih =>
      rw [oks] at k
      rw [dps] at hl
      intro x hx
      rw [wdss] at hx
      rcases List.mem_append.mp hx with hx | hx
      · cases m with
        | sc a b =>
          rw [wds, List.mem_singleton] at hx
          subst hx
          have k1 := k.1
          rw [ok] at k1
          exact ⟨wd_len (by omega) (by omega), wd_free (by omega) (by omega) (by omega) (by omega), wd_ne_nil (by omega) L_nil⟩
        | rp l2 t =>
          rw [dp] at hl
          have k1 := k.1
          rw [ok] at k1
          rw [wds] at hx
          rcases List.mem_cons.mp hx with e | hx
          · subst e
            exact ⟨by decide, by decide, by decide +kernel⟩
          · rcases List.mem_append.mp hx with hx | hx
            · exact ihn l2 (by omega) k1.2.2 hw hh x hx
            · rw [List.mem_singleton] at hx
              subst hx
              have hl := num_len (i := t) (k := 31) (by omega) (by decide) (by omega)
              obtain ⟨m, rfl⟩ := Int.eq_ofNat_of_zero_le (show 0 ≤ t by omega)
              refine ⟨?_, ?_, ?_⟩
              · rw [Str.length_append]
                have e : (ch 41).length = 1 := rfl
                omega
              · rw [L_app]
                intro q
                rcases List.mem_append.mp q with q | q
                · exact absurd q (by decide)
                · exact num_free (by omega) q
              · intro e
                have := congrArg L e
                rw [L_nil, L_app] at this
                exact absurd this (by simp [ch, L])
      · exact ih (by omega) k.2 x hx
  intro n
  induction n with
  | zero => exact one 0 fun l hl => by omega
  | succ n ih => exact one (n + 1) fun l hl => ih l (by omega)
/-- what stands behind nodes that are read: nothing, or the end of a bracket -/
def Rest (d : Nat) (l : List Nd) (rest : List Str) : Prop := (d = 0 ∧ rest = []) ∨ (0 < d ∧ l ≠ [] ∧ ∃ t r, (2 ≤ t ∧ t ≤ (1000000000000000000000000000000 : Int)) ∧ rest = (ch 41 ++ num t) :: r)
theorem lt_pow {i : Int} {b : Nat} {m : Int} (h0 : 0 ≤ i) (h : i < m) (hm : m ≤ 2 ^ b) : i.natAbs < 2 ^ b := by
  have e : ((2 ^ b : Nat) : Int) = (2 : Int) ^ b := by simp
  omega
theorem logOk_le {i : Int} (h : 0 ≤ i) (h2 : i < 10 ^ 100) : logOk i := by
  have := PySem.Flt.log2_lt_of (by decide) (lt_pow (b := 400) h h2 (by decide))
  show i.natAbs.log2 < 1920
  omega
/-- nodes as plain data -/
theorem gdP {w h : Int} (hw : w ≤ (1000000000000000000000000000000 : Int) + 1) (hh : h ≤ (1000000000000000000000000000000 : Int)) {l : List Nd} (hk : oks w h l) : ∀ d ∈ l.map eP, Gd (2 * dps l + 1) d :=
  Gd.map (gd_eP (fun i h0 h1 => logOk_le h0 (by omega)) (fun i h0 h1 => logOk_le h0 (by omega)) (dps l) l (Nat.le_refl _) hk)
theorem fl_P {w h : Int} (hw : w ≤ (1000000000000000000000000000000 : Int) + 1) (hh : h ≤ (1000000000000000000000000000000 : Int)) {l : List Nd} (hk : oks w h l) : flatL (l.map eP) = true := List.all_eq_true.mpr fun d hd => gd_flat (gdP hw hh hk d hd)
theorem close_ne (t : Int) : (ch 41 ++ num t = ("(" : Str)) = False := by
  refine eq_false fun e => ?_
  rw [e_par] at e
  have := congrArg L e
  rw [L_app] at this
  injection this with this _
  exact absurd this (by decide)
theorem close_cut (t : Int) : cutS (ch 41 ++ num t) none (some 1) = (")" : Str) := by
  rw [e_rap]
  exact cut_head (r := L (num t)) (by rw [L_app]; rfl)
theorem close_tail (t : Int) : cutS (ch 41 ++ num t) (some 1) none = num t := cut_tail rfl
theorem drop_cons {α : Type} {W : List α} {p : Nat} {x : α} {r : List α} (h : W.drop p = x :: r) : W[p]? = some x ∧ W.drop (p + 1) = r ∧ p < W.length := by
  have h1 : (W.drop p)[0]? = some x := by rw [h]; rfl
  rw [List.getElem?_drop] at h1
  refine ⟨h1, ?_, (List.getElem?_eq_some_iff.mp h1).1⟩
  rw [← List.drop_drop, h]
  rfl
theorem drop_app {α : Type} {W l r : List α} {p : Nat} (h : W.drop p = l ++ r) : W.drop (p + l.length) = r := by
  rw [← List.drop_drop, h, List.drop_left]
theorem par_ne {a b : Int} (ha : 0 ≤ a) : wd a b ≠ ch 40 := wd_ne ha (c := 40) (r := []) rfl (by decide)
theorem cut_ne {a b : Int} (ha : 0 ≤ a) : cutS (wd a b) none (some 1) ≠ ch 41 := by
  obtain ⟨c, r, h, h1, h2⟩ := wd_head (b := b) ha
  rw [cut_head h]
  intro e
  have := congrArg L e
  injection this with this _
  omega
theorem read_step {w h : Int} (hw : w ≤ (1000000000000000000000000000000 : Int) + 1) (hh : h ≤ (1000000000000000000000000000000 : Int)) (W : List Str) (hW : W.length ≤ 100000) (n : Nat)
    (ih : ∀ l (d p s : Nat) rest, dps l < n → oks w h l → d + dps l ≤ 5 → s + (scss l).length ≤ 40 → W.drop p = wdss l ++ rest → Rest d l rest →
      ∀ S, g_read_nodes n [.lst (W.map .str), .int p, .int d, .int s] S = .ok (.tup [.tup (l.map eP), .int (p + (wdss l).length : Nat), .int (s + (scss l).length : Nat)]) S)
    (l : List Nd) (d p s : Nat) (rest : List Str) (hl : dps l ≤ n) (hk : oks w h l) (hd : d + dps l ≤ 5) (hs : s + (scss l).length ≤ 40) (hdrop : W.drop p = wdss l ++ rest) (hr : Rest d l rest) (S : Cells) :
    g_read_nodes (n + 1) [.lst (W.map .str), .int p, .int d, .int s] S = .ok (.tup [.tup (l.map eP), .int (p + (wdss l).length : Nat), .int (s + (scss l).length : Nat)]) S := by
  have zz := z24
  refine wp_ok ?_
  rw [show g_read_nodes (n + 1) = bodyD 10 (B_read_nodes (g_read_nodes n)) from rfl]
  push_cast [B_read_nodes]
  refine w_while (σ := List Nd × List Nd × Option D × Option D × Option D × Option D)
    (fun σ => [some (.lst (W.map .str)), some (.int p), some (.int d), some (.int (s + (scss σ.1).length : Nat)), some (.tup (σ.1.map eP)), some (.int (p + (wdss σ.1).length : Nat)), σ.2.2.1, σ.2.2.2.1, σ.2.2.2.2.1, σ.2.2.2.2.2])
    (fun _ => S) (fun σ => l = σ.1 ++ σ.2.1) (fun σ => σ.2.1.length) ([], l, none, none, none, none) rfl ?_ (by simp [wdss, scss]) rfl
  rintro ⟨l1, l2, x6, x7, x8, x9⟩ e
  simp only at e
  have hdr : W.drop (p + (wdss l1).length) = wdss l2 ++ rest := drop_app (by rw [hdrop, e, wdss_app, List.append_assoc])
  rw [e] at hk
  have hk' := (oks_app l1 l2).mp hk
  have hd2 : dps l2 ≤ dps l := by rw [e, dps_app]; omega
  have hs1 : (scss l).length = (scss l1).length + (scss l2).length := by rw [e, scss_app, List.length_append]
  push_cast
  cases l2 with
  | nil =>
    rw [List.append_nil] at e
    subst e
    rw [wdss, List.nil_append] at hdr
    rcases hr with ⟨d0, r0⟩ | ⟨d0, l0, t, r, ht, r0⟩
    · subst r0
      have hp : W.length ≤ p + (wdss l).length := by
        rcases Nat.lt_or_ge (p + (wdss l).length) W.length with q | q
        · have := congrArg List.length hdr
          rw [List.length_drop] at this
          simp at this
          omega
        · exact q
      push_cast
      refine ⟨fun q => by omega, fun _ => ⟨fun q => by omega, fun _ => ?_⟩⟩
      push_cast [wret_flat (show (D.tup [.tup (l.map eP), .int ((p : Int) + ((wdss l).length : Nat)), .int ((s : Int) + ((scss l).length : Nat))]).flat = true by rw [fl_tup, fl_cons, fl_tup, fl_P hw hh hk'.1]; simp [fl_cons, fl_nil])]
      exact ⟨rfl, List.take_length⟩
    · obtain ⟨g1, g2, g3⟩ := drop_cons (hdr.trans r0)
      have gw : (W.map D.str)[p + (wdss l).length]? = some (.str (ch 41 ++ num t)) := by rw [List.getElem?_map, g1]; rfl
      refine ⟨fun _ => ?_, fun q => by omega⟩
      have hE : dEq (.tup (l.map eP)) (.tup []) S = some (.bl false) := by
        rw [dEq_tnil (gdP hw hh hk'.1) (by omega)]
        cases l with
        | nil => exact absurd rfl l0
        | cons a l => rfl
      push_cast [L1_read_nodes, wAt_some (atI_nat gw), close_ne t, close_cut t, close_tail t, hE, number_in_ok (low := 2) (show 0 ≤ t by omega) ht.1 ht.2]
      refine ⟨fun q => by omega, fun _ => ?_⟩
      push_cast [wret_flat (show (D.tup [.tup (l.map eP), .int ((p : Int) + ((wdss l).length : Nat)), .int ((s : Int) + ((scss l).length : Nat))]).flat = true by rw [fl_tup, fl_cons, fl_tup, fl_P hw hh hk'.1]; simp [fl_cons, fl_nil])]
      exact ⟨rfl, List.take_length⟩
  | cons m l3 =>
    rw [wdss, List.append_assoc] at hdr
    cases m with
    | sc a b =>
      rw [wds] at hdr
      have k1 := hk'.2
      rw [oks, ok] at k1
      have h1 : 0 ≤ a ∧ a ≤ (1000000000000000000000000000000 : Int) := by omega
      have h2 : 0 ≤ b ∧ b ≤ (1000000000000000000000000000000 : Int) := by omega
      obtain ⟨g1, g2, g3⟩ := drop_cons hdr
      have gw : (W.map D.str)[p + (wdss l1).length]? = some (.str (wd a b)) := by rw [List.getElem?_map, g1]; rfl
      rw [scss, scs] at hs1
      simp only [List.length_append, List.length_singleton] at hs1
      refine ⟨fun _ => ?_, fun q => by omega⟩
      push_cast [L1_read_nodes, wAt_some (atI_nat gw), e_par, e_rap, eq_false (par_ne (b := b) h1.1), eq_false (cut_ne (b := b) h1.1), scan_in_ok h1 h2]
      have hl1 := len_le_scss hk'.1
      refine ⟨fun q => by omega, fun _ => ⟨by omega, (l1 ++ [.sc a b], l3, some (.str (wd a b)), x7, x8, some (.tup [.int a, .int b])), ?_, by rw [e, List.append_assoc]; rfl, Nat.lt_succ_self _⟩⟩
      simp only [scss_app, scss_one, scs, wdss_app, wdss_one, wds, List.map_append, List.map_cons, List.map_nil, eP_sc, List.length_append, List.length_singleton]
      rfl
    | rp l2 t =>
      rw [wds] at hdr
      have k1 := hk'.2
      rw [oks, ok] at k1
      rw [scss, scs] at hs1
      rw [dps, dp] at hd2
      simp only [List.length_append] at hs1
      obtain ⟨g1, g2, g3⟩ := drop_cons (show W.drop (p + (wdss l1).length) = ch 40 :: (wdss l2 ++ ((ch 41 ++ num t) :: (wdss l3 ++ rest))) by rw [hdr]; simp)
      have gw : (W.map D.str)[p + (wdss l1).length]? = some (.str (ch 40)) := by rw [List.getElem?_map, g1]; rfl
      have rr := ih l2 (d + 1) (p + (wdss l1).length + 1) (s + (scss l1).length) _ (by omega) k1.1.2.2 (by omega) (by omega) g2 (.inr ⟨by omega, k1.1.1, t, _, by omega, rfl⟩) S
      have rr2 : g_read_nodes n [.lst (W.map .str), .int (((p + (wdss l1).length : Nat) : Int) + 1), .int ((d : Int) + 1), .int ((s + (scss l1).length : Nat) : Int)] S = _ := rr
      obtain ⟨u1, u2, u3⟩ := drop_cons (drop_app g2)
      have gu : (W.map D.str)[p + (wdss l1).length + 1 + (wdss l2).length]? = some (.str (ch 41 ++ num t)) := by rw [List.getElem?_map, u1]; rfl
      have hn : intText? (num t) = some t := num_reads (by omega) (by omega)
      have hnl := num_len (i := t) (k := 31) (by omega) (by decide) (by omega)
      refine ⟨fun _ => ?_, fun q => by omega⟩
      push_cast [L1_read_nodes, wAt_some (atI_nat gw), e_par, rr2, wAt_some (atI_nat gu), close_tail t, hn, ex_some]
      have hl1 := len_le_scss hk'.1
      refine ⟨fun q => by omega, fun _ => ⟨by omega, by omega, (l1 ++ [.rp l2 t], l3, some (.str (ch 40)), some (.tup (l2.map eP)), some (.int (p + (wdss l1).length + 1 + (wdss l2).length : Nat)), x9), ?_, by rw [e, List.append_assoc]; rfl, Nat.lt_succ_self _⟩⟩
      have e1 : p + (wdss (l1 ++ [Nd.rp l2 t])).length = p + (wdss l1).length + 1 + (wdss l2).length + 1 := by
        rw [wdss_app, wdss_one, wds]
        simp only [List.length_append, List.length_cons, List.length_nil]
        omega
      have e2 : s + (scss (l1 ++ [Nd.rp l2 t])).length = s + (scss l1).length + (scss l2).length := by
        rw [scss_app, scss_one, scs, List.length_append]
        omega
      simp only [e1, e2, List.map_append, List.map_cons, List.map_nil, eP_rp]
      rfl
theorem read_ok {w h : Int} (hw : w ≤ (1000000000000000000000000000000 : Int) + 1) (hh : h ≤ (1000000000000000000000000000000 : Int)) (W : List Str) (hW : W.length ≤ 100000) : ∀ n l (d p s : Nat) rest, dps l < n → oks w h l → d + dps l ≤ 5 → s + (scss l).length ≤ 40 → W.drop p = wdss l ++ rest → Rest d l rest →
    ∀ S, g_read_nodes n [.lst (W.map .str), .int p, .int d, .int s] S = .ok (.tup [.tup (l.map eP), .int (p + (wdss l).length : Nat), .int (s + (scss l).length : Nat)]) S := by
  intro n
  induction n with
  | zero => intro l d p s rest hl; omega
  | succ n ih => intro l d p s rest hl hk hd hs hdrop hr S; exact read_step hw hh W hW n ih l d p s rest (by omega) hk hd hs hdrop hr S
/-- a program by its nodes -/
def prog (l : List Nd) : D := .obj 1 [.tup (l.map eP)]
theorem wdss_len {w h : Int} : ∀ n l, dps l ≤ n → oks w h l → (wdss l).length ≤ 3 ^ n * (scss l).length := by
  have hp : ∀ n : Nat, 1 ≤ 3 ^ n := fun n => Nat.one_le_pow _ _ (by decide)
  have one : ∀ n : Nat, (∀ l, dps l < n → oks w h l → (wdss l).length ≤ 3 ^ (n - 1) * (scss l).length) → ∀ l, dps l ≤ n → oks w h l → (wdss l).length ≤ 3 ^ n * (scss l).length := by
    intro n ihn l hl k
    induction l with
    | nil => rw [wdss]; exact Nat.zero_le _
    | cons m l ih =>
      rw [oks] at k
      rw [dps] at hl
      rw [wdss, scss, List.length_append, List.length_append, Nat.mul_add]
      have e := ih (by omega) k.2
      have em : (wds m).length ≤ 3 ^ n * (scs m).length := by
        cases m with
        | sc a b => rw [wds, scs]; have := hp n; simp; omega
        | rp l2 t =>
          rw [dp] at hl
          have k1 := k.1
          rw [ok] at k1
          have h1 := ihn l2 (by omega) k1.2.2
          have h2 := scss_pos l2 w h k1.2.2 k1.1
          rw [wds, scs]
          obtain ⟨j, rfl⟩ : ∃ j, n = j + 1 := ⟨n - 1, by omega⟩
          rw [Nat.add_sub_cancel] at h1
          have h3 : 1 ≤ 3 ^ j * (scss l2).length := Nat.mul_pos (hp j) h2
          simp only [List.length_append, List.length_cons, List.length_nil]
          rw [Nat.pow_succ, Nat.mul_assoc, Nat.mul_comm 3, ← Nat.mul_assoc]
          omega
      omega
  intro n
  induction n with
  | zero => exact one 0 fun l hl => by omega
  | succ n ih => exact one (n + 1) fun l hl => ih l (by omega)
theorem join_ne {ws : List Str} (h : ws ≠ []) (h2 : ∀ x ∈ ws, x ≠ "") : Str.join (ch 32) ws ≠ "" := by
  cases ws with
  | nil => exact absurd rfl h
  | cons x r =>
    intro e
    have hx := h2 x List.mem_cons_self
    have e2 := congrArg L e
    rw [L_nil] at e2
    cases r with
    | nil => exact hx e
    | cons y r =>
      have e3 : L (Str.join (ch 32) (x :: y :: r)) = L x ++ 32 :: L (Str.join (ch 32) (y :: r)) := by
        rw [L_join, L_join]
        rfl
      rw [e3] at e2
      exact absurd e2 (by simp)
theorem sum_le {ws : List Str} {k : Nat} (h : ∀ x ∈ ws, x.length ≤ k) : (ws.map (·.length)).sum ≤ ws.length * k := by
  induction ws with
  | nil => exact Nat.zero_le _
  | cons x r ih =>
    have h1 := h x List.mem_cons_self
    have h2 := ih fun y hy => h y (List.mem_cons_of_mem _ hy)
    rw [List.map_cons, List.sum_cons, List.length_cons, Nat.add_mul]
    omega
theorem text_len {ws : List Str} (h : ∀ x ∈ ws, x.length ≤ 63) (h2 : ws.length ≤ 100000) : (ws.map (·.length)).sum + ws.length ≤ 6400000 ∧ (Str.join (ch 32) ws).length ≤ 6400000 := by
  have h1 := sum_le h
  have h3 := join_len 32 ws
  constructor <;> omega
theorem init_ok {w h : Int} {l : List Nd} (hw : w ≤ (1000000000000000000000000000000 : Int) + 1) (hh : h ≤ (1000000000000000000000000000000 : Int)) (hk : oks w h l) (hd : dps l ≤ 5) (hs : (scss l).length ≤ 40) : makeD NMf 1 2 g_Program___init__ [.str (Str.join (ch 32) (wdss l))] S = .ok (prog l) S := by
  have zz := z24
  have hws := wds_ok (dps l) l (Nat.le_refl _) hk hw hh
  have hl := wdss_len (dps l) l (Nat.le_refl _) hk
  have hl2 : 3 ^ dps l * (scss l).length ≤ 3 ^ 5 * 40 := Nat.mul_le_mul (Nat.pow_le_pow_right (by decide) hd) hs
  have hl3 : (wdss l).length ≤ 100000 := by omega
  obtain ⟨t1, t2⟩ := text_len (fun x hx => (hws x hx).1) hl3
  refine wp_ok (make_wp rfl ?_)
  push_cast [g_Program___init__, B_Program___init__, e_gap]
  have fin : ∀ {W : List Str}, W = wdss l → g_read_nodes 8 [.lst (W.map .str), .int 0, .int 0, .int 0] (S ++ [⟨true, .ins 1 []⟩]) = .ok (.tup [.tup (l.map eP), .int ((wdss l).length : Nat), .int ((scss l).length : Nat)]) (S ++ [⟨true, .ins 1 []⟩]) := fun {W} eW => by
    subst eW
    have := read_ok hw hh (wdss l) hl3 8 l 0 0 0 [] (by omega) hk (by omega) (by omega) (by simp) (.inl ⟨rfl, rfl⟩) (S ++ [⟨true, .ins 1 []⟩])
    simp only [Nat.zero_add] at this
    exact this
  have fl := fl_P hw hh hk
  have rest : ∀ {W : List Str}, W = wdss l → wp (g_read_nodes 8 [.lst (W.map .str), .int 0, .int 0, .int 0] (S ++ [⟨true, .ins 1 []⟩])) (fun x S_1 => wp (kon (D.int 0) S_1) (fun y S_2 => wpo (ixD x y S_2) S_2 fun y S_3 => wp (rd (startD 2 [D.ref (List.length S), D.str ((ch 32).join (wdss l))]) 0 S_3)
      (fun d S_4 => wSto (setFD [1] (Str.ofString "own_nodes") d y S_4) (startD 2 [D.ref (List.length S), D.str ((ch 32).join (wdss l))]) fun x S1 =>
        D.non = D.non ∧ ∃ b fs, (List.take (List.length (S ++ [⟨true, CC.ins 1 []⟩])) S1)[List.length S]? = some ⟨b, CC.ins 1 fs⟩ ∧ List.map (fun x => x.fst) fs = NMf 1 ∧ D.obj 1 (List.map (fun x => x.snd) fs) = prog l ∧ List.take (List.length S) (List.take (List.length (S ++ [⟨true, CC.ins 1 []⟩])) S1) = S)
      fun x S_4 => noE x (List.take (List.length (S ++ [⟨true, CC.ins 1 []⟩])) S_4)) fun x S_2 => noE x (List.take (List.length (S ++ [⟨true, CC.ins 1 []⟩])) S_2)) noE := fun eW => by
    push_cast [fin eW, fl]
    refine ⟨⟨by decide, by decide⟩, true, [("own_nodes", .tup (l.map eP))], by simp, rfl, rfl, by rw [List.take_take, Nat.min_eq_left (by omega)]; exact take_app rfl⟩
  by_cases hl0 : l = []
  · subst hl0
    have e0 : Str.join (ch 32) (wdss []) = "" := by rw [wdss]; decide +kernel
    exact ⟨fun _ => rest (W := []) (by rw [wdss]), fun q => absurd e0 q⟩
  · have hw0 : wdss l ≠ [] := by
      cases l with
      | nil => exact absurd rfl hl0
      | cons m l => rw [wdss]; cases m <;> rw [wds] <;> simp
    have hsp : Txt.split (Str.join (ch 32) (wdss l)) (ch 32) = wdss l := split_join (fun x hx => (hws x hx).2.1) hw0
    refine ⟨fun q => absurd q (join_ne hw0 fun x hx => (hws x hx).2.2), fun _ => ⟨⟨by decide, by omega, by rw [hsp]; omega, fun z hz => ?_⟩, rest hsp⟩⟩
    rw [hsp] at hz
    have := (hws z hz).1
    omega
end

end K26
end
section
set_option maxHeartbeats 4000000
set_option exponentiation.threshold 3000
namespace K26
open PySem PySem.Spec L2 DL
open PyProof.Rows hiding St
open Lean in
local macro_rules | `(tactic| push_cast [$ts,*]) => `(tactic| simp only [↓DL.r0, ↓DL.r1, ↓DL.r2, ↓DL.r3, ↓DL.r4, ↓DL.r5, ↓DL.r6, ↓DL.r7, ↓DL.r8, ↓DL.r9, ↓DL.r10, ↓DL.r11, ↓DL.r12, ↓DL.r13, ↓DL.r14, ↓DL.r15, ↓DL.r16, ↓DL.r17, ↓DL.r18, ↓DL.r19, ↓DL.r20, ↓DL.r21, ↓DL.r22, ↓DL.r23, ↓DL.r24, ↓DL.r25, ↓DL.r26, ↓DL.r27, ↓DL.r28, ↓DL.r29, DL.s0, DL.s1, DL.s2, DL.s3, DL.s4, DL.s5, DL.s6, DL.s7, DL.s8, DL.s9, DL.s10, DL.s11, DL.s12, DL.s13, DL.s14, DL.s15, DL.s16, DL.s17, DL.s18, DL.s19, DL.s20, DL.s21, DL.s22, DL.s23, DL.s24, DL.s25, DL.s26, DL.s27, DL.s28, DL.s29, DL.startD_cons, DL.startD_nil, DL.startD_zero, ↓DL.w_ok, ↓DL.w_some, ↓DL.w_somec, ↓DL.w_bind, ↓DL.w_opt, ↓DL.w_chg, ↓DL.w_kon, ↓DL.w_calm, ↓DL.w_b2, ↓DL.w_b2L, ↓DL.w_b1, ↓DL.wB_bl, ↓DL.w_asB, ↓DL.w_b2T, ↓DL.w_chE, ↓DL.w_chT, ↓DL.w_not, ↓DL.w_val, ↓DL.w_notE, ↓DL.w_ifE, ↓DL.w_ifL, ↓DL.w_andM, ↓DL.w_orM, ↓DL.w_andE, ↓DL.w_orE, ↓DL.w_nil, ↓DL.w_cons, ↓DL.w_tup, ↓DL.w_lst, ↓DL.w_frz, ↓DL.w_new, ↓DL.w_cel, ↓DL.w_cb, ↓DL.w_cbL, ↓DL.w_call, ↓DL.w_callL, ↓DL.w_ar0, ↓DL.w_ar1, ↓DL.w_ar2, ↓DL.w_ar3, ↓DL.w_ar4, ↓DL.w_ar5, ↓DL.w_ar6, ↓DL.w_noO, ↓DL.w_smO, ↓DL.w_sl, ↓DL.w_slL, ↓DL.w_rev, ↓DL.w_step, ↓DL.w_isi, ↓DL.w_sets, ↓DL.w_lrg, ↓DL.w_mth, ↓DL.w_mth0, ↓DL.w_itS, ↓DL.w_itR1, ↓DL.w_itR2, ↓DL.w_itR3, ↓DL.w_itZ, ↓DL.w_itN, ↓DL.w_lc, ↓DL.w_nx, ↓DL.w_rt, ↓DL.w_seq, ↓DL.w_set, ↓DL.wPar_2, ↓DL.w_par, ↓DL.w_aug, ↓DL.w_sto, ↓DL.w_exp, ↓DL.w_ret, ↓DL.w_retN, ↓DL.w_nxS, ↓DL.w_ifS, ↓DL.w_for, ↓DL.w_asg, ↓DL.w_stk, ↓DL.w_body, ↓DL.w_bodyL, ↓DL.wret_non, ↓DL.wret_bl, ↓DL.wret_int, ↓DL.wret_str, ↓DL.wif_t, ↓DL.wif_f, ↓DL.wif_d, ↓DL.wif_n, ↓DL.wif_a, ↓DL.wif_o, DL.few0, DL.few1, DL.few2, DL.few3, DL.few4, DL.few5, DL.few6, DL.few7, DL.few8, DL.few9, DL.few10, true_and, and_true, ↓DL.a_nm, ↓DL.a_tp1, ↓DL.a_tp2, ↓DL.a_tp3, ↓DL.a_tp4, ↓DL.a_tp5, ↓DL.a_tpn, ↓DL.a_tpm, ↓DL.a_encP, DL.wipe_nil, DL.wipe_cons, DL.o_add, DL.o_sub, DL.o_neg, ↓DL.o_mul, ↓DL.o_div, ↓DL.o_mod, DL.o_pow, ↓DL.o_p10_3, ↓DL.o_p10_4, ↓DL.o_p10_6, ↓DL.o_p10_8, ↓DL.o_p10_9, ↓DL.o_p10_12, ↓DL.o_p10_15, ↓DL.o_p10_18, ↓DL.o_p10_20, ↓DL.o_p10_25, ↓DL.o_p10_26, ↓DL.o_p10_27, ↓DL.o_p10_28, ↓DL.o_p10_29, ↓DL.o_p10_30, ↓DL.o_p10_31, ↓DL.o_p10_36, ↓DL.o_p10_38, ↓DL.o_p10_40, ↓DL.o_p10_42, ↓DL.o_p10_44, ↓DL.o_p10_46, ↓DL.o_p10_48, ↓DL.o_p10_50, ↓DL.o_p10_60, ↓DL.o_p10_64, ↓DL.o_p10_70, ↓DL.o_p10_90, ↓DL.o_p10_99, ↓DL.o_p10_100, ↓DL.o_addS, ↓DL.o_addT, ↓DL.o_catL, ↓DL.o_addL, DL.o_lt, DL.o_le, DL.o_gt, DL.o_ge, DL.o_eqI, DL.o_neI, DL.o_eqS, DL.o_neS, DL.o_is, DL.o_isn, DL.n_non, DL.n_bl, DL.n_int, DL.n_str, DL.n_lst, DL.n_tup, DL.n_ref, DL.n_obj, DL.i_non_int, DL.i_non_bool, DL.i_non_str, DL.i_non_list, DL.i_non_tuple, DL.i_bl_int, DL.i_bl_bool, DL.i_bl_str, DL.i_bl_list, DL.i_bl_tuple, DL.i_int_int, DL.i_int_bool, DL.i_int_str, DL.i_int_list, DL.i_int_tuple, DL.i_str_int, DL.i_str_bool, DL.i_str_str, DL.i_str_list, DL.i_str_tuple, DL.i_lst_int, DL.i_lst_bool, DL.i_lst_str, DL.i_lst_list, DL.i_lst_tuple, DL.i_tup_int, DL.i_tup_bool, DL.i_tup_str, DL.i_tup_list, DL.i_tup_tuple, DL.t_non, DL.t_bl, DL.t_int, DL.t_lst, DL.t_tup, ↓DL.x_lst, ↓DL.x_tup, ↓DL.x_encP0, ↓DL.x_encP1, DL.ixn1_0, DL.ixn1_m1, DL.ixn2_0, DL.ixn2_1, DL.ixn2_m1, DL.ixn3_0, DL.ixn3_1, DL.ixn3_2, DL.ixn3_m1, DL.ixn4_0, DL.ixn4_1, DL.ixn4_2, DL.ixn4_3, DL.ixn4_m1, DL.ixn5_0, DL.ixn5_1, DL.ixn5_2, DL.ixn5_3, DL.ixn5_4, DL.ixn5_m1, DL.ixn6_0, DL.ixn6_1, DL.ixn6_2, DL.ixn6_3, DL.ixn6_4, DL.ixn6_5, DL.ixn6_m1, DL.ixn7_0, DL.ixn7_1, DL.ixn7_2, DL.ixn7_3, DL.ixn7_4, DL.ixn7_5, DL.ixn7_6, DL.ixn7_m1, DL.ixn8_0, DL.ixn8_1, DL.ixn8_2, DL.ixn8_3, DL.ixn8_4, DL.ixn8_5, DL.ixn8_6, DL.ixn8_7, DL.ixn8_m1, ↓DL.x1_0, ↓DL.x1_m1, ↓DL.x2_0, ↓DL.x2_1, ↓DL.x2_m1, ↓DL.x3_0, ↓DL.x3_1, ↓DL.x3_2, ↓DL.x3_m1, ↓DL.x4_0, ↓DL.x4_1, ↓DL.x4_2, ↓DL.x4_3, ↓DL.x4_m1, ↓DL.x5_0, ↓DL.x5_1, ↓DL.x5_2, ↓DL.x5_3, ↓DL.x5_4, ↓DL.x5_m1, ↓DL.x6_0, ↓DL.x6_1, ↓DL.x6_2, ↓DL.x6_3, ↓DL.x6_4, ↓DL.x6_5, ↓DL.x6_m1, ↓DL.x7_0, ↓DL.x7_1, ↓DL.x7_2, ↓DL.x7_3, ↓DL.x7_4, ↓DL.x7_5, ↓DL.x7_6, ↓DL.x7_m1, ↓DL.x8_0, ↓DL.x8_1, ↓DL.x8_2, ↓DL.x8_3, ↓DL.x8_4, ↓DL.x8_5, ↓DL.x8_6, ↓DL.x8_7, ↓DL.x8_m1, DL.c_abs, DL.c_max2, DL.c_min2, DL.c_int, DL.c_intb, DL.c_lenS, DL.c_lenT, DL.c_lenL, DL.c_listT, DL.c_listL, DL.c_tupT, DL.c_tupL, DL.c_sum, DL.c_sum0, DL.c_all, DL.c_any, DL.c_minP, DL.c_maxP, DL.c_sortP, DL.c_zip, DL.c_enum, DL.c_range1, DL.c_range2, DL.g_lst, DL.g_tup, DL.g_str, DL.p_int, DL.sq_lst, DL.sl_lst, DL.sl_tup, DL.sl_str, DL.slL_lst, DL.om_some, List.set_cons_zero, List.set_cons_succ, DL.m_tyL, DL.m_tyS, DL.m_ty, DL.m_app, DL.m_sto, DL.m_fzL, DL.m_fzI, DL.m_fzT, DL.m_fz, DL.x_ref, DL.c_lenR, DL.c_listR, DL.c_tupR, DL.sl_ref, DL.atL_new, DL.atL_new1, DL.atL_new2, DL.atL_old, DL.set_new, DL.set_new1, DL.set_new2, DL.set_old, DL.take_app, DL.app_app, DL.cons_app, DL.nil_app, DL.len_app1, DL.len_app2, DL.len_app3, DL.len_set, DL.seq_new, DL.seq_new1, DL.seq_new2, DL.seq_old, DL.ex_some, DL.fl_non, DL.fl_int, DL.fl_bl, DL.fl_str, DL.fl_tup, DL.fl_lst, DL.fl_obj, DL.fl_nil, DL.fl_cons, DL.fl_app, DL.fl_encP, Bool.and_self, Bool.and_true, Bool.true_and, List.set_set, ↓DL.w_yes, ↓DL.w_fld, ↓DL.w_mt, ↓DL.w_mtL, ↓DL.w_mt0, ↓DL.w_mt0L, ↓DL.w_ic, DL.isO_obj, ↓DL.w_make, ↓DL.w_b2M, ↓DL.w_b2MT, DL.c_intU, DL.c_intbU, ↓DL.w_mthL, ↓DL.w_uM, ↓DL.w_inv, ↓DL.w_bin_obj, ↓DL.w_bin_int, ↓DL.w_fldS, DL.m_fld, DL.atI_new, DL.putD, ↓DL.w_repL, ↓DL.w_isiC, ↓DL.w_par3, ↓DL.wPar3_3, DL.m_count, DL.wretL_new, DL.wret_new, ↓DL.c_setSort, DL.o_addI, DL.o_inS, DL.o_ninS, ↓DL.c_str, ↓DL.c_intSw, ↓DL.m_ext, DL.slt_l, DL.slt_t, DL.slt_r, ↓DL.c_dm, ↓DL.c_split, ↓DL.c_join, ↓DL.c_rep, ↓DL.x_str, ↓DL.o_catRL, ↓DL.o_addRL, ↓DL.wret_tup, ↓DL.wret_lst, List.take_length, List.length_cons, List.length_nil, List.length_map, Int.cast_ofNat_Int, Bool.not_true, Bool.not_false, Int.reduceAdd, Int.reduceSub, Int.reduceMul, Int.reduceNeg, Int.reduceEq, Int.reduceLT, Int.reduceLE, Nat.reduceAdd, Nat.reduceSub, eq_self, not_true_eq_false, not_false_eq_true, false_implies, implies_true, true_implies, ff_Nodes_held, ff_Program_own_nodes, fm_Program_accesses, isf_Nodes_Nodes, isf_Nodes_Program, isf_Nodes_0s, isf_Nodes_0i, isf_Nodes_0l, isf_Nodes_0t, isf_Nodes_0n, isf_Nodes_0b, isf_Program_Nodes, isf_Program_Program, isf_Program_0s, isf_Program_0i, isf_Program_0l, isf_Program_0t, isf_Program_0n, isf_Program_0b, $ts,*])
open Lean in
local macro_rules | `(tactic| push_cast) => `(tactic| simp only [↓DL.r0, ↓DL.r1, ↓DL.r2, ↓DL.r3, ↓DL.r4, ↓DL.r5, ↓DL.r6, ↓DL.r7, ↓DL.r8, ↓DL.r9, ↓DL.r10, ↓DL.r11, ↓DL.r12, ↓DL.r13, ↓DL.r14, ↓DL.r15, ↓DL.r16, ↓DL.r17, ↓DL.r18, ↓DL.r19, ↓DL.r20, ↓DL.r21, ↓DL.r22, ↓DL.r23, ↓DL.r24, ↓DL.r25, ↓DL.r26, ↓DL.r27, ↓DL.r28, ↓DL.r29, DL.s0, DL.s1, DL.s2, DL.s3, DL.s4, DL.s5, DL.s6, DL.s7, DL.s8, DL.s9, DL.s10, DL.s11, DL.s12, DL.s13, DL.s14, DL.s15, DL.s16, DL.s17, DL.s18, DL.s19, DL.s20, DL.s21, DL.s22, DL.s23, DL.s24, DL.s25, DL.s26, DL.s27, DL.s28, DL.s29, DL.startD_cons, DL.startD_nil, DL.startD_zero, ↓DL.w_ok, ↓DL.w_some, ↓DL.w_somec, ↓DL.w_bind, ↓DL.w_opt, ↓DL.w_chg, ↓DL.w_kon, ↓DL.w_calm, ↓DL.w_b2, ↓DL.w_b2L, ↓DL.w_b1, ↓DL.wB_bl, ↓DL.w_asB, ↓DL.w_b2T, ↓DL.w_chE, ↓DL.w_chT, ↓DL.w_not, ↓DL.w_val, ↓DL.w_notE, ↓DL.w_ifE, ↓DL.w_ifL, ↓DL.w_andM, ↓DL.w_orM, ↓DL.w_andE, ↓DL.w_orE, ↓DL.w_nil, ↓DL.w_cons, ↓DL.w_tup, ↓DL.w_lst, ↓DL.w_frz, ↓DL.w_new, ↓DL.w_cel, ↓DL.w_cb, ↓DL.w_cbL, ↓DL.w_call, ↓DL.w_callL, ↓DL.w_ar0, ↓DL.w_ar1, ↓DL.w_ar2, ↓DL.w_ar3, ↓DL.w_ar4, ↓DL.w_ar5, ↓DL.w_ar6, ↓DL.w_noO, ↓DL.w_smO, ↓DL.w_sl, ↓DL.w_slL, ↓DL.w_rev, ↓DL.w_step, ↓DL.w_isi, ↓DL.w_sets, ↓DL.w_lrg, ↓DL.w_mth, ↓DL.w_mth0, ↓DL.w_itS, ↓DL.w_itR1, ↓DL.w_itR2, ↓DL.w_itR3, ↓DL.w_itZ, ↓DL.w_itN, ↓DL.w_lc, ↓DL.w_nx, ↓DL.w_rt, ↓DL.w_seq, ↓DL.w_set, ↓DL.wPar_2, ↓DL.w_par, ↓DL.w_aug, ↓DL.w_sto, ↓DL.w_exp, ↓DL.w_ret, ↓DL.w_retN, ↓DL.w_nxS, ↓DL.w_ifS, ↓DL.w_for, ↓DL.w_asg, ↓DL.w_stk, ↓DL.w_body, ↓DL.w_bodyL, ↓DL.wret_non, ↓DL.wret_bl, ↓DL.wret_int, ↓DL.wret_str, ↓DL.wif_t, ↓DL.wif_f, ↓DL.wif_d, ↓DL.wif_n, ↓DL.wif_a, ↓DL.wif_o, DL.few0, DL.few1, DL.few2, DL.few3, DL.few4, DL.few5, DL.few6, DL.few7, DL.few8, DL.few9, DL.few10, true_and, and_true, ↓DL.a_nm, ↓DL.a_tp1, ↓DL.a_tp2, ↓DL.a_tp3, ↓DL.a_tp4, ↓DL.a_tp5, ↓DL.a_tpn, ↓DL.a_tpm, ↓DL.a_encP, DL.wipe_nil, DL.wipe_cons, DL.o_add, DL.o_sub, DL.o_neg, ↓DL.o_mul, ↓DL.o_div, ↓DL.o_mod, DL.o_pow, ↓DL.o_p10_3, ↓DL.o_p10_4, ↓DL.o_p10_6, ↓DL.o_p10_8, ↓DL.o_p10_9, ↓DL.o_p10_12, ↓DL.o_p10_15, ↓DL.o_p10_18, ↓DL.o_p10_20, ↓DL.o_p10_25, ↓DL.o_p10_26, ↓DL.o_p10_27, ↓DL.o_p10_28, ↓DL.o_p10_29, ↓DL.o_p10_30, ↓DL.o_p10_31, ↓DL.o_p10_36, ↓DL.o_p10_38, ↓DL.o_p10_40, ↓DL.o_p10_42, ↓DL.o_p10_44, ↓DL.o_p10_46, ↓DL.o_p10_48, ↓DL.o_p10_50, ↓DL.o_p10_60, ↓DL.o_p10_64, ↓DL.o_p10_70, ↓DL.o_p10_90, ↓DL.o_p10_99, ↓DL.o_p10_100, ↓DL.o_addS, ↓DL.o_addT, ↓DL.o_catL, ↓DL.o_addL, DL.o_lt, DL.o_le, DL.o_gt, DL.o_ge, DL.o_eqI, DL.o_neI, DL.o_eqS, DL.o_neS, DL.o_is, DL.o_isn, DL.n_non, DL.n_bl, DL.n_int, DL.n_str, DL.n_lst, DL.n_tup, DL.n_ref, DL.n_obj, DL.i_non_int, DL.i_non_bool, DL.i_non_str, DL.i_non_list, DL.i_non_tuple, DL.i_bl_int, DL.i_bl_bool, DL.i_bl_str, DL.i_bl_list, DL.i_bl_tuple, DL.i_int_int, DL.i_int_bool, DL.i_int_str, DL.i_int_list, DL.i_int_tuple, DL.i_str_int, DL.i_str_bool, DL.i_str_str, DL.i_str_list, DL.i_str_tuple, DL.i_lst_int, DL.i_lst_bool, DL.i_lst_str, DL.i_lst_list, DL.i_lst_tuple, DL.i_tup_int, DL.i_tup_bool, DL.i_tup_str, DL.i_tup_list, DL.i_tup_tuple, DL.t_non, DL.t_bl, DL.t_int, DL.t_lst, DL.t_tup, ↓DL.x_lst, ↓DL.x_tup, ↓DL.x_encP0, ↓DL.x_encP1, DL.ixn1_0, DL.ixn1_m1, DL.ixn2_0, DL.ixn2_1, DL.ixn2_m1, DL.ixn3_0, DL.ixn3_1, DL.ixn3_2, DL.ixn3_m1, DL.ixn4_0, DL.ixn4_1, DL.ixn4_2, DL.ixn4_3, DL.ixn4_m1, DL.ixn5_0, DL.ixn5_1, DL.ixn5_2, DL.ixn5_3, DL.ixn5_4, DL.ixn5_m1, DL.ixn6_0, DL.ixn6_1, DL.ixn6_2, DL.ixn6_3, DL.ixn6_4, DL.ixn6_5, DL.ixn6_m1, DL.ixn7_0, DL.ixn7_1, DL.ixn7_2, DL.ixn7_3, DL.ixn7_4, DL.ixn7_5, DL.ixn7_6, DL.ixn7_m1, DL.ixn8_0, DL.ixn8_1, DL.ixn8_2, DL.ixn8_3, DL.ixn8_4, DL.ixn8_5, DL.ixn8_6, DL.ixn8_7, DL.ixn8_m1, ↓DL.x1_0, ↓DL.x1_m1, ↓DL.x2_0, ↓DL.x2_1, ↓DL.x2_m1, ↓DL.x3_0, ↓DL.x3_1, ↓DL.x3_2, ↓DL.x3_m1, ↓DL.x4_0, ↓DL.x4_1, ↓DL.x4_2, ↓DL.x4_3, ↓DL.x4_m1, ↓DL.x5_0, ↓DL.x5_1, ↓DL.x5_2, ↓DL.x5_3, ↓DL.x5_4, ↓DL.x5_m1, ↓DL.x6_0, ↓DL.x6_1, ↓DL.x6_2, ↓DL.x6_3, ↓DL.x6_4, ↓DL.x6_5, ↓DL.x6_m1, ↓DL.x7_0, ↓DL.x7_1, ↓DL.x7_2, ↓DL.x7_3, ↓DL.x7_4, ↓DL.x7_5, ↓DL.x7_6, ↓DL.x7_m1, ↓DL.x8_0, ↓DL.x8_1, ↓DL.x8_2, ↓DL.x8_3, ↓DL.x8_4, ↓DL.x8_5, ↓DL.x8_6, ↓DL.x8_7, ↓DL.x8_m1, DL.c_abs, DL.c_max2, DL.c_min2, DL.c_int, DL.c_intb, DL.c_lenS, DL.c_lenT, DL.c_lenL, DL.c_listT, DL.c_listL, DL.c_tupT, DL.c_tupL, DL.c_sum, DL.c_sum0, DL.c_all, DL.c_any, DL.c_minP, DL.c_maxP, DL.c_sortP, DL.c_zip, DL.c_enum, DL.c_range1, DL.c_range2, DL.g_lst, DL.g_tup, DL.g_str, DL.p_int, DL.sq_lst, DL.sl_lst, DL.sl_tup, DL.sl_str, DL.slL_lst, DL.om_some, List.set_cons_zero, List.set_cons_succ, DL.m_tyL, DL.m_tyS, DL.m_ty, DL.m_app, DL.m_sto, DL.m_fzL, DL.m_fzI, DL.m_fzT, DL.m_fz, DL.x_ref, DL.c_lenR, DL.c_listR, DL.c_tupR, DL.sl_ref, DL.atL_new, DL.atL_new1, DL.atL_new2, DL.atL_old, DL.set_new, DL.set_new1, DL.set_new2, DL.set_old, DL.take_app, DL.app_app, DL.cons_app, DL.nil_app, DL.len_app1, DL.len_app2, DL.len_app3, DL.len_set, DL.seq_new, DL.seq_new1, DL.seq_new2, DL.seq_old, DL.ex_some, DL.fl_non, DL.fl_int, DL.fl_bl, DL.fl_str, DL.fl_tup, DL.fl_lst, DL.fl_obj, DL.fl_nil, DL.fl_cons, DL.fl_app, DL.fl_encP, Bool.and_self, Bool.and_true, Bool.true_and, List.set_set, ↓DL.w_yes, ↓DL.w_fld, ↓DL.w_mt, ↓DL.w_mtL, ↓DL.w_mt0, ↓DL.w_mt0L, ↓DL.w_ic, DL.isO_obj, ↓DL.w_make, ↓DL.w_b2M, ↓DL.w_b2MT, DL.c_intU, DL.c_intbU, ↓DL.w_mthL, ↓DL.w_uM, ↓DL.w_inv, ↓DL.w_bin_obj, ↓DL.w_bin_int, ↓DL.w_fldS, DL.m_fld, DL.atI_new, DL.putD, ↓DL.w_repL, ↓DL.w_isiC, ↓DL.w_par3, ↓DL.wPar3_3, DL.m_count, DL.wretL_new, DL.wret_new, ↓DL.c_setSort, DL.o_addI, DL.o_inS, DL.o_ninS, ↓DL.c_str, ↓DL.c_intSw, ↓DL.m_ext, DL.slt_l, DL.slt_t, DL.slt_r, ↓DL.c_dm, ↓DL.c_split, ↓DL.c_join, ↓DL.c_rep, ↓DL.x_str, ↓DL.o_catRL, ↓DL.o_addRL, ↓DL.wret_tup, ↓DL.wret_lst, List.take_length, List.length_cons, List.length_nil, List.length_map, Int.cast_ofNat_Int, Bool.not_true, Bool.not_false, Int.reduceAdd, Int.reduceSub, Int.reduceMul, Int.reduceNeg, Int.reduceEq, Int.reduceLT, Int.reduceLE, Nat.reduceAdd, Nat.reduceSub, eq_self, not_true_eq_false, not_false_eq_true, false_implies, implies_true, true_implies, ff_Nodes_held, ff_Program_own_nodes, fm_Program_accesses, isf_Nodes_Nodes, isf_Nodes_Program, isf_Nodes_0s, isf_Nodes_0i, isf_Nodes_0l, isf_Nodes_0t, isf_Nodes_0n, isf_Nodes_0b, isf_Program_Nodes, isf_Program_Program, isf_Program_0s, isf_Program_0i, isf_Program_0l, isf_Program_0t, isf_Program_0n, isf_Program_0b])
/-! numbers of accesses -/
open MT MN
theorem s_sr : (("scan" : Str) = "repeat") = False := eq_false (by decide +kernel)
theorem s_rs : (("repeat" : Str) = "scan") = False := eq_false (by decide +kernel)
theorem s_sa : (("scan" : Str) = "again") = False := eq_false (by decide +kernel)
theorem s_as : (("again" : Str) = "scan") = False := eq_false (by decide +kernel)
theorem len_mem {w h : Int} {l : List Nd} {m : Nd} (k : oks w h l) (hm : m ∈ l) : len m ≤ lens l := by
  induction l with
  | nil => simp at hm
  | cons n l ih =>
    rw [oks] at k
    have h1 := lens_pos k.2
    have h2 := len_pos k.1
    rw [lens]
    rcases List.mem_cons.mp hm with e | e
    · subst e; omega
    · have := ih k.2 e; omega
theorem len_rp_le {w h : Int} {l : List Nd} {t : Int} (k : ok w h (.rp l t)) : lens l ≤ len (.rp l t) := by
  rw [ok] at k
  have := lens_pos k.2.2
  rw [len]
  have := Int.mul_le_mul_of_nonneg_left (show 1 ≤ t by omega) this
  omega
/-- fewer than 10 ** 400 -/
def Big (i : Int) : Prop := 0 ≤ i ∧ i < 10 ^ 400
theorem big_mul {i j : Int} (hi : Big i) (hj : Big j) : okMul i j = true := okMul_of 1400 1400 (by
  have e : ((2 ^ 1400 : Nat) : Int) = (2 : Int) ^ 1400 := by simp
  have := hi.1; have := hi.2; omega) (by
  have e : ((2 ^ 1400 : Nat) : Int) = (2 : Int) ^ 1400 := by simp
  have := hj.1; have := hj.2; omega) (by decide)
section
variable {S : Cells}
theorem size_of_ok {a b : Int} : g_size_of [.tup [.int a, .int b]] S = .ok (.int (sz a b)) S := by
  refine wp_ok ?_
  push_cast [g_size_of, B_size_of]
  exact rfl
theorem acc_step {w h : Int} (hh : h ≤ (1000000000000000000000000000000 : Int)) (n : Nat) (ih : ∀ l, dps l < n → oks w h l → lens l < 10 ^ 400 → ∀ S, g_accesses_in n [.tup (l.map eP)] S = .ok (.int (lens l)) S)
    (l : List Nd) (hl : dps l ≤ n) (hk : oks w h l) (hb : lens l < 10 ^ 400) (S : Cells) : g_accesses_in (n + 1) [.tup (l.map eP)] S = .ok (.int (lens l)) S := by
  refine wp_ok ?_
  rw [show g_accesses_in (n + 1) = bodyD 3 (B_accesses_in (g_accesses_in n)) from rfl]
  push_cast [B_accesses_in]
  refine for_st (σ := List Nd × Option D) eP (fun σ => [some (.tup (l.map eP)), some (.int (lens σ.1)), σ.2]) (fun _ => S) (fun σ r => l = σ.1 ++ r) l ([], none) rfl ?_ ?_ (by simp [lens]) rfl
  · rintro ⟨l1, x2⟩ m r e
    simp only at e
    have hm : m ∈ l := by rw [e]; simp
    have ho := ok_mem hk hm
    have hdm := dp_mem hm
    have hlm := len_mem hk hm
    cases m with
    | sc a b =>
      push_cast [L1_accesses_in, eP_sc, s_sr, cut_1, List.drop_succ_cons, List.drop_zero, size_of_ok]
      exact ⟨(l1 ++ [.sc a b], some (eP (.sc a b))), by simp only [lens_app, lens_one, len, eP_sc], by rw [e, List.append_assoc]; rfl⟩
    | rp l2 t =>
      rw [dp] at hdm
      have hle := len_rp_le ho
      rw [ok] at ho
      push_cast [L1_accesses_in, eP_rp, ih l2 (by omega) ho.2.2 (by omega)]
      exact ⟨big_mul ⟨lens_pos ho.2.2, by omega⟩ ⟨by omega, by omega⟩, (l1 ++ [.rp l2 t], some (eP (.rp l2 t))), by simp only [lens_app, lens_one, len, eP_rp], by rw [e, List.append_assoc]; rfl⟩
  · rintro ⟨l1, x2⟩ e
    simp only [List.append_nil] at e
    subst e
    push_cast
theorem acc_ok {w h : Int} (hh : h ≤ (1000000000000000000000000000000 : Int)) : ∀ n l, dps l < n → oks w h l → lens l < 10 ^ 400 → ∀ S, g_accesses_in n [.tup (l.map eP)] S = .ok (.int (lens l)) S := by
  intro n
  induction n with
  | zero => intro l hl; omega
  | succ n ih => intro l hl hk hb S; exact acc_step hh n ih l (by omega) hk hb S
/-- valid nodes of a program -/
structure PG (w h : Int) (l : List Nd) : Prop where
  hw : w ≤ (1000000000000000000000000000000 : Int) + 1
  hh : h ≤ (1000000000000000000000000000000 : Int)
  k : oks w h l
  d : dps l ≤ 5
  b : lens l < 10 ^ 400
theorem fld_prog {l : List Nd} : fldD NMf [1] "own_nodes" (prog l) S = some (.tup (l.map eP)) := ff_Program_own_nodes
theorem isi_prog {l : List Nd} : isiCD tab_Program (prog l) S = some (.bl true) := isf_Program_Program
theorem fl_prog {w h : Int} {l : List Nd} (g : PG w h l) : (prog l).flat = true := by rw [prog, fl_obj, fl_cons, fl_tup, fl_P g.hw g.hh g.k]; rfl
theorem accesses_ok {w h : Int} {l : List Nd} (g : PG w h l) : g_Program_accesses [prog l] S = .ok (.int (lens l)) S := by
  refine wp_ok ?_
  have := g.d
  push_cast [g_Program_accesses, B_Program_accesses, fld_prog, acc_ok g.hh 8 l (by omega) g.k g.b]
theorem isC_acc {l : List Nd} : isC NMf 1 "accesses" (prog l) S = some () := fm_Program_accesses
theorem made_prog {w h : Int} {l : List Nd} (g : PG w h l) (hs : (scss l).length ≤ 40) : makeD NMf 1 2 g_Program___init__ [.str (Str.join (ch 32) (wdss l))] S = .ok (prog l) S := init_ok g.hw g.hh g.k g.d hs
theorem eq_prog {w h : Int} {l : List Nd} (g : PG w h l) : g_Program___eq__ [prog l, prog l] S = .ok (.bl true) S := by
  have h1 := dEq_same (S := S) (Gd.tup (gdP g.hw g.hh g.k)) (by have := g.d; omega)
  refine wp_ok ?_
  push_cast [g_Program___eq__, B_Program___eq__, isi_prog, fld_prog, h1]
theorem req_prog {l : List Nd} : g_require_program [prog l] S = .ok .non S := by
  refine wp_ok ?_
  push_cast [g_require_program, B_require_program, isi_prog]
end

end K26
end
section
set_option maxHeartbeats 4000000
set_option exponentiation.threshold 3000
namespace K26
open PySem PySem.Spec L2 DL
open PyProof.Rows hiding St
open Lean in
local macro_rules | `(tactic| push_cast [$ts,*]) => `(tactic| simp only [↓DL.r0, ↓DL.r1, ↓DL.r2, ↓DL.r3, ↓DL.r4, ↓DL.r5, ↓DL.r6, ↓DL.r7, ↓DL.r8, ↓DL.r9, ↓DL.r10, ↓DL.r11, ↓DL.r12, ↓DL.r13, ↓DL.r14, ↓DL.r15, ↓DL.r16, ↓DL.r17, ↓DL.r18, ↓DL.r19, ↓DL.r20, ↓DL.r21, ↓DL.r22, ↓DL.r23, ↓DL.r24, ↓DL.r25, ↓DL.r26, ↓DL.r27, ↓DL.r28, ↓DL.r29, DL.s0, DL.s1, DL.s2, DL.s3, DL.s4, DL.s5, DL.s6, DL.s7, DL.s8, DL.s9, DL.s10, DL.s11, DL.s12, DL.s13, DL.s14, DL.s15, DL.s16, DL.s17, DL.s18, DL.s19, DL.s20, DL.s21, DL.s22, DL.s23, DL.s24, DL.s25, DL.s26, DL.s27, DL.s28, DL.s29, DL.startD_cons, DL.startD_nil, DL.startD_zero, ↓DL.w_ok, ↓DL.w_some, ↓DL.w_somec, ↓DL.w_bind, ↓DL.w_opt, ↓DL.w_chg, ↓DL.w_kon, ↓DL.w_calm, ↓DL.w_b2, ↓DL.w_b2L, ↓DL.w_b1, ↓DL.wB_bl, ↓DL.w_asB, ↓DL.w_b2T, ↓DL.w_chE, ↓DL.w_chT, ↓DL.w_not, ↓DL.w_val, ↓DL.w_notE, ↓DL.w_ifE, ↓DL.w_ifL, ↓DL.w_andM, ↓DL.w_orM, ↓DL.w_andE, ↓DL.w_orE, ↓DL.w_nil, ↓DL.w_cons, ↓DL.w_tup, ↓DL.w_lst, ↓DL.w_frz, ↓DL.w_new, ↓DL.w_cel, ↓DL.w_cb, ↓DL.w_cbL, ↓DL.w_call, ↓DL.w_callL, ↓DL.w_ar0, ↓DL.w_ar1, ↓DL.w_ar2, ↓DL.w_ar3, ↓DL.w_ar4, ↓DL.w_ar5, ↓DL.w_ar6, ↓DL.w_noO, ↓DL.w_smO, ↓DL.w_sl, ↓DL.w_slL, ↓DL.w_rev, ↓DL.w_step, ↓DL.w_isi, ↓DL.w_sets, ↓DL.w_lrg, ↓DL.w_mth, ↓DL.w_mth0, ↓DL.w_itS, ↓DL.w_itR1, ↓DL.w_itR2, ↓DL.w_itR3, ↓DL.w_itZ, ↓DL.w_itN, ↓DL.w_lc, ↓DL.w_nx, ↓DL.w_rt, ↓DL.w_seq, ↓DL.w_set, ↓DL.wPar_2, ↓DL.w_par, ↓DL.w_aug, ↓DL.w_sto, ↓DL.w_exp, ↓DL.w_ret, ↓DL.w_retN, ↓DL.w_nxS, ↓DL.w_ifS, ↓DL.w_for, ↓DL.w_asg, ↓DL.w_stk, ↓DL.w_body, ↓DL.w_bodyL, ↓DL.wret_non, ↓DL.wret_bl, ↓DL.wret_int, ↓DL.wret_str, ↓DL.wif_t, ↓DL.wif_f, ↓DL.wif_d, ↓DL.wif_n, ↓DL.wif_a, ↓DL.wif_o, DL.few0, DL.few1, DL.few2, DL.few3, DL.few4, DL.few5, DL.few6, DL.few7, DL.few8, DL.few9, DL.few10, true_and, and_true, ↓DL.a_nm, ↓DL.a_tp1, ↓DL.a_tp2, ↓DL.a_tp3, ↓DL.a_tp4, ↓DL.a_tp5, ↓DL.a_tpn, ↓DL.a_tpm, ↓DL.a_encP, DL.wipe_nil, DL.wipe_cons, DL.o_add, DL.o_sub, DL.o_neg, ↓DL.o_mul, ↓DL.o_div, ↓DL.o_mod, DL.o_pow, ↓DL.o_p10_3, ↓DL.o_p10_4, ↓DL.o_p10_6, ↓DL.o_p10_8, ↓DL.o_p10_9, ↓DL.o_p10_12, ↓DL.o_p10_15, ↓DL.o_p10_18, ↓DL.o_p10_20, ↓DL.o_p10_25, ↓DL.o_p10_26, ↓DL.o_p10_27, ↓DL.o_p10_28, ↓DL.o_p10_29, ↓DL.o_p10_30, ↓DL.o_p10_31, ↓DL.o_p10_36, ↓DL.o_p10_38, ↓DL.o_p10_40, ↓DL.o_p10_42, ↓DL.o_p10_44, ↓DL.o_p10_46, ↓DL.o_p10_48, ↓DL.o_p10_50, ↓DL.o_p10_60, ↓DL.o_p10_64, ↓DL.o_p10_70, ↓DL.o_p10_90, ↓DL.o_p10_99, ↓DL.o_p10_100, ↓DL.o_addS, ↓DL.o_addT, ↓DL.o_catL, ↓DL.o_addL, DL.o_lt, DL.o_le, DL.o_gt, DL.o_ge, DL.o_eqI, DL.o_neI, DL.o_eqS, DL.o_neS, DL.o_is, DL.o_isn, DL.n_non, DL.n_bl, DL.n_int, DL.n_str, DL.n_lst, DL.n_tup, DL.n_ref, DL.n_obj, DL.i_non_int, DL.i_non_bool, DL.i_non_str, DL.i_non_list, DL.i_non_tuple, DL.i_bl_int, DL.i_bl_bool, DL.i_bl_str, DL.i_bl_list, DL.i_bl_tuple, DL.i_int_int, DL.i_int_bool, DL.i_int_str, DL.i_int_list, DL.i_int_tuple, DL.i_str_int, DL.i_str_bool, DL.i_str_str, DL.i_str_list, DL.i_str_tuple, DL.i_lst_int, DL.i_lst_bool, DL.i_lst_str, DL.i_lst_list, DL.i_lst_tuple, DL.i_tup_int, DL.i_tup_bool, DL.i_tup_str, DL.i_tup_list, DL.i_tup_tuple, DL.t_non, DL.t_bl, DL.t_int, DL.t_lst, DL.t_tup, ↓DL.x_lst, ↓DL.x_tup, ↓DL.x_encP0, ↓DL.x_encP1, DL.ixn1_0, DL.ixn1_m1, DL.ixn2_0, DL.ixn2_1, DL.ixn2_m1, DL.ixn3_0, DL.ixn3_1, DL.ixn3_2, DL.ixn3_m1, DL.ixn4_0, DL.ixn4_1, DL.ixn4_2, DL.ixn4_3, DL.ixn4_m1, DL.ixn5_0, DL.ixn5_1, DL.ixn5_2, DL.ixn5_3, DL.ixn5_4, DL.ixn5_m1, DL.ixn6_0, DL.ixn6_1, DL.ixn6_2, DL.ixn6_3, DL.ixn6_4, DL.ixn6_5, DL.ixn6_m1, DL.ixn7_0, DL.ixn7_1, DL.ixn7_2, DL.ixn7_3, DL.ixn7_4, DL.ixn7_5, DL.ixn7_6, DL.ixn7_m1, DL.ixn8_0, DL.ixn8_1, DL.ixn8_2, DL.ixn8_3, DL.ixn8_4, DL.ixn8_5, DL.ixn8_6, DL.ixn8_7, DL.ixn8_m1, ↓DL.x1_0, ↓DL.x1_m1, ↓DL.x2_0, ↓DL.x2_1, ↓DL.x2_m1, ↓DL.x3_0, ↓DL.x3_1, ↓DL.x3_2, ↓DL.x3_m1, ↓DL.x4_0, ↓DL.x4_1, ↓DL.x4_2, ↓DL.x4_3, ↓DL.x4_m1, ↓DL.x5_0, ↓DL.x5_1, ↓DL.x5_2, ↓DL.x5_3, ↓DL.x5_4, ↓DL.x5_m1, ↓DL.x6_0, ↓DL.x6_1, ↓DL.x6_2, ↓DL.x6_3, ↓DL.x6_4, ↓DL.x6_5, ↓DL.x6_m1, ↓DL.x7_0, ↓DL.x7_1, ↓DL.x7_2, ↓DL.x7_3, ↓DL.x7_4, ↓DL.x7_5, ↓DL.x7_6, ↓DL.x7_m1, ↓DL.x8_0, ↓DL.x8_1, ↓DL.x8_2, ↓DL.x8_3, ↓DL.x8_4, ↓DL.x8_5, ↓DL.x8_6, ↓DL.x8_7, ↓DL.x8_m1, DL.c_abs, DL.c_max2, DL.c_min2, DL.c_int, DL.c_intb, DL.c_lenS, DL.c_lenT, DL.c_lenL, DL.c_listT, DL.c_listL, DL.c_tupT, DL.c_tupL, DL.c_sum, DL.c_sum0, DL.c_all, DL.c_any, DL.c_minP, DL.c_maxP, DL.c_sortP, DL.c_zip, DL.c_enum, DL.c_range1, DL.c_range2, DL.g_lst, DL.g_tup, DL.g_str, DL.p_int, DL.sq_lst, DL.sl_lst, DL.sl_tup, DL.sl_str, DL.slL_lst, DL.om_some, List.set_cons_zero, List.set_cons_succ, DL.m_tyL, DL.m_tyS, DL.m_ty, DL.m_app, DL.m_sto, DL.m_fzL, DL.m_fzI, DL.m_fzT, DL.m_fz, DL.x_ref, DL.c_lenR, DL.c_listR, DL.c_tupR, DL.sl_ref, DL.atL_new, DL.atL_new1, DL.atL_new2, DL.atL_old, DL.set_new, DL.set_new1, DL.set_new2, DL.set_old, DL.take_app, DL.app_app, DL.cons_app, DL.nil_app, DL.len_app1, DL.len_app2, DL.len_app3, DL.len_set, DL.seq_new, DL.seq_new1, DL.seq_new2, DL.seq_old, DL.ex_some, DL.fl_non, DL.fl_int, DL.fl_bl, DL.fl_str, DL.fl_tup, DL.fl_lst, DL.fl_obj, DL.fl_nil, DL.fl_cons, DL.fl_app, DL.fl_encP, Bool.and_self, Bool.and_true, Bool.true_and, List.set_set, ↓DL.w_yes, ↓DL.w_fld, ↓DL.w_mt, ↓DL.w_mtL, ↓DL.w_mt0, ↓DL.w_mt0L, ↓DL.w_ic, DL.isO_obj, ↓DL.w_make, ↓DL.w_b2M, ↓DL.w_b2MT, DL.c_intU, DL.c_intbU, ↓DL.w_mthL, ↓DL.w_uM, ↓DL.w_inv, ↓DL.w_bin_obj, ↓DL.w_bin_int, ↓DL.w_fldS, DL.m_fld, DL.atI_new, DL.putD, ↓DL.w_repL, ↓DL.w_isiC, ↓DL.w_par3, ↓DL.wPar3_3, DL.m_count, DL.wretL_new, DL.wret_new, ↓DL.c_setSort, DL.o_addI, DL.o_inS, DL.o_ninS, ↓DL.c_str, ↓DL.c_intSw, ↓DL.m_ext, DL.slt_l, DL.slt_t, DL.slt_r, ↓DL.c_dm, ↓DL.c_split, ↓DL.c_join, ↓DL.c_rep, ↓DL.x_str, ↓DL.o_catRL, ↓DL.o_addRL, ↓DL.wret_tup, ↓DL.wret_lst, List.take_length, List.length_cons, List.length_nil, List.length_map, Int.cast_ofNat_Int, Bool.not_true, Bool.not_false, Int.reduceAdd, Int.reduceSub, Int.reduceMul, Int.reduceNeg, Int.reduceEq, Int.reduceLT, Int.reduceLE, Nat.reduceAdd, Nat.reduceSub, eq_self, not_true_eq_false, not_false_eq_true, false_implies, implies_true, true_implies, ff_Nodes_held, ff_Program_own_nodes, fm_Program_accesses, isf_Nodes_Nodes, isf_Nodes_Program, isf_Nodes_0s, isf_Nodes_0i, isf_Nodes_0l, isf_Nodes_0t, isf_Nodes_0n, isf_Nodes_0b, isf_Program_Nodes, isf_Program_Program, isf_Program_0s, isf_Program_0i, isf_Program_0l, isf_Program_0t, isf_Program_0n, isf_Program_0b, $ts,*])
open Lean in
local macro_rules | `(tactic| push_cast) => `(tactic| simp only [↓DL.r0, ↓DL.r1, ↓DL.r2, ↓DL.r3, ↓DL.r4, ↓DL.r5, ↓DL.r6, ↓DL.r7, ↓DL.r8, ↓DL.r9, ↓DL.r10, ↓DL.r11, ↓DL.r12, ↓DL.r13, ↓DL.r14, ↓DL.r15, ↓DL.r16, ↓DL.r17, ↓DL.r18, ↓DL.r19, ↓DL.r20, ↓DL.r21, ↓DL.r22, ↓DL.r23, ↓DL.r24, ↓DL.r25, ↓DL.r26, ↓DL.r27, ↓DL.r28, ↓DL.r29, DL.s0, DL.s1, DL.s2, DL.s3, DL.s4, DL.s5, DL.s6, DL.s7, DL.s8, DL.s9, DL.s10, DL.s11, DL.s12, DL.s13, DL.s14, DL.s15, DL.s16, DL.s17, DL.s18, DL.s19, DL.s20, DL.s21, DL.s22, DL.s23, DL.s24, DL.s25, DL.s26, DL.s27, DL.s28, DL.s29, DL.startD_cons, DL.startD_nil, DL.startD_zero, ↓DL.w_ok, ↓DL.w_some, ↓DL.w_somec, ↓DL.w_bind, ↓DL.w_opt, ↓DL.w_chg, ↓DL.w_kon, ↓DL.w_calm, ↓DL.w_b2, ↓DL.w_b2L, ↓DL.w_b1, ↓DL.wB_bl, ↓DL.w_asB, ↓DL.w_b2T, ↓DL.w_chE, ↓DL.w_chT, ↓DL.w_not, ↓DL.w_val, ↓DL.w_notE, ↓DL.w_ifE, ↓DL.w_ifL, ↓DL.w_andM, ↓DL.w_orM, ↓DL.w_andE, ↓DL.w_orE, ↓DL.w_nil, ↓DL.w_cons, ↓DL.w_tup, ↓DL.w_lst, ↓DL.w_frz, ↓DL.w_new, ↓DL.w_cel, ↓DL.w_cb, ↓DL.w_cbL, ↓DL.w_call, ↓DL.w_callL, ↓DL.w_ar0, ↓DL.w_ar1, ↓DL.w_ar2, ↓DL.w_ar3, ↓DL.w_ar4, ↓DL.w_ar5, ↓DL.w_ar6, ↓DL.w_noO, ↓DL.w_smO, ↓DL.w_sl, ↓DL.w_slL, ↓DL.w_rev, ↓DL.w_step, ↓DL.w_isi, ↓DL.w_sets, ↓DL.w_lrg, ↓DL.w_mth, ↓DL.w_mth0, ↓DL.w_itS, ↓DL.w_itR1, ↓DL.w_itR2, ↓DL.w_itR3, ↓DL.w_itZ, ↓DL.w_itN, ↓DL.w_lc, ↓DL.w_nx, ↓DL.w_rt, ↓DL.w_seq, ↓DL.w_set, ↓DL.wPar_2, ↓DL.w_par, ↓DL.w_aug, ↓DL.w_sto, ↓DL.w_exp, ↓DL.w_ret, ↓DL.w_retN, ↓DL.w_nxS, ↓DL.w_ifS, ↓DL.w_for, ↓DL.w_asg, ↓DL.w_stk, ↓DL.w_body, ↓DL.w_bodyL, ↓DL.wret_non, ↓DL.wret_bl, ↓DL.wret_int, ↓DL.wret_str, ↓DL.wif_t, ↓DL.wif_f, ↓DL.wif_d, ↓DL.wif_n, ↓DL.wif_a, ↓DL.wif_o, DL.few0, DL.few1, DL.few2, DL.few3, DL.few4, DL.few5, DL.few6, DL.few7, DL.few8, DL.few9, DL.few10, true_and, and_true, ↓DL.a_nm, ↓DL.a_tp1, ↓DL.a_tp2, ↓DL.a_tp3, ↓DL.a_tp4, ↓DL.a_tp5, ↓DL.a_tpn, ↓DL.a_tpm, ↓DL.a_encP, DL.wipe_nil, DL.wipe_cons, DL.o_add, DL.o_sub, DL.o_neg, ↓DL.o_mul, ↓DL.o_div, ↓DL.o_mod, DL.o_pow, ↓DL.o_p10_3, ↓DL.o_p10_4, ↓DL.o_p10_6, ↓DL.o_p10_8, ↓DL.o_p10_9, ↓DL.o_p10_12, ↓DL.o_p10_15, ↓DL.o_p10_18, ↓DL.o_p10_20, ↓DL.o_p10_25, ↓DL.o_p10_26, ↓DL.o_p10_27, ↓DL.o_p10_28, ↓DL.o_p10_29, ↓DL.o_p10_30, ↓DL.o_p10_31, ↓DL.o_p10_36, ↓DL.o_p10_38, ↓DL.o_p10_40, ↓DL.o_p10_42, ↓DL.o_p10_44, ↓DL.o_p10_46, ↓DL.o_p10_48, ↓DL.o_p10_50, ↓DL.o_p10_60, ↓DL.o_p10_64, ↓DL.o_p10_70, ↓DL.o_p10_90, ↓DL.o_p10_99, ↓DL.o_p10_100, ↓DL.o_addS, ↓DL.o_addT, ↓DL.o_catL, ↓DL.o_addL, DL.o_lt, DL.o_le, DL.o_gt, DL.o_ge, DL.o_eqI, DL.o_neI, DL.o_eqS, DL.o_neS, DL.o_is, DL.o_isn, DL.n_non, DL.n_bl, DL.n_int, DL.n_str, DL.n_lst, DL.n_tup, DL.n_ref, DL.n_obj, DL.i_non_int, DL.i_non_bool, DL.i_non_str, DL.i_non_list, DL.i_non_tuple, DL.i_bl_int, DL.i_bl_bool, DL.i_bl_str, DL.i_bl_list, DL.i_bl_tuple, DL.i_int_int, DL.i_int_bool, DL.i_int_str, DL.i_int_list, DL.i_int_tuple, DL.i_str_int, DL.i_str_bool, DL.i_str_str, DL.i_str_list, DL.i_str_tuple, DL.i_lst_int, DL.i_lst_bool, DL.i_lst_str, DL.i_lst_list, DL.i_lst_tuple, DL.i_tup_int, DL.i_tup_bool, DL.i_tup_str, DL.i_tup_list, DL.i_tup_tuple, DL.t_non, DL.t_bl, DL.t_int, DL.t_lst, DL.t_tup, ↓DL.x_lst, ↓DL.x_tup, ↓DL.x_encP0, ↓DL.x_encP1, DL.ixn1_0, DL.ixn1_m1, DL.ixn2_0, DL.ixn2_1, DL.ixn2_m1, DL.ixn3_0, DL.ixn3_1, DL.ixn3_2, DL.ixn3_m1, DL.ixn4_0, DL.ixn4_1, DL.ixn4_2, DL.ixn4_3, DL.ixn4_m1, DL.ixn5_0, DL.ixn5_1, DL.ixn5_2, DL.ixn5_3, DL.ixn5_4, DL.ixn5_m1, DL.ixn6_0, DL.ixn6_1, DL.ixn6_2, DL.ixn6_3, DL.ixn6_4, DL.ixn6_5, DL.ixn6_m1, DL.ixn7_0, DL.ixn7_1, DL.ixn7_2, DL.ixn7_3, DL.ixn7_4, DL.ixn7_5, DL.ixn7_6, DL.ixn7_m1, DL.ixn8_0, DL.ixn8_1, DL.ixn8_2, DL.ixn8_3, DL.ixn8_4, DL.ixn8_5, DL.ixn8_6, DL.ixn8_7, DL.ixn8_m1, ↓DL.x1_0, ↓DL.x1_m1, ↓DL.x2_0, ↓DL.x2_1, ↓DL.x2_m1, ↓DL.x3_0, ↓DL.x3_1, ↓DL.x3_2, ↓DL.x3_m1, ↓DL.x4_0, ↓DL.x4_1, ↓DL.x4_2, ↓DL.x4_3, ↓DL.x4_m1, ↓DL.x5_0, ↓DL.x5_1, ↓DL.x5_2, ↓DL.x5_3, ↓DL.x5_4, ↓DL.x5_m1, ↓DL.x6_0, ↓DL.x6_1, ↓DL.x6_2, ↓DL.x6_3, ↓DL.x6_4, ↓DL.x6_5, ↓DL.x6_m1, ↓DL.x7_0, ↓DL.x7_1, ↓DL.x7_2, ↓DL.x7_3, ↓DL.x7_4, ↓DL.x7_5, ↓DL.x7_6, ↓DL.x7_m1, ↓DL.x8_0, ↓DL.x8_1, ↓DL.x8_2, ↓DL.x8_3, ↓DL.x8_4, ↓DL.x8_5, ↓DL.x8_6, ↓DL.x8_7, ↓DL.x8_m1, DL.c_abs, DL.c_max2, DL.c_min2, DL.c_int, DL.c_intb, DL.c_lenS, DL.c_lenT, DL.c_lenL, DL.c_listT, DL.c_listL, DL.c_tupT, DL.c_tupL, DL.c_sum, DL.c_sum0, DL.c_all, DL.c_any, DL.c_minP, DL.c_maxP, DL.c_sortP, DL.c_zip, DL.c_enum, DL.c_range1, DL.c_range2, DL.g_lst, DL.g_tup, DL.g_str, DL.p_int, DL.sq_lst, DL.sl_lst, DL.sl_tup, DL.sl_str, DL.slL_lst, DL.om_some, List.set_cons_zero, List.set_cons_succ, DL.m_tyL, DL.m_tyS, DL.m_ty, DL.m_app, DL.m_sto, DL.m_fzL, DL.m_fzI, DL.m_fzT, DL.m_fz, DL.x_ref, DL.c_lenR, DL.c_listR, DL.c_tupR, DL.sl_ref, DL.atL_new, DL.atL_new1, DL.atL_new2, DL.atL_old, DL.set_new, DL.set_new1, DL.set_new2, DL.set_old, DL.take_app, DL.app_app, DL.cons_app, DL.nil_app, DL.len_app1, DL.len_app2, DL.len_app3, DL.len_set, DL.seq_new, DL.seq_new1, DL.seq_new2, DL.seq_old, DL.ex_some, DL.fl_non, DL.fl_int, DL.fl_bl, DL.fl_str, DL.fl_tup, DL.fl_lst, DL.fl_obj, DL.fl_nil, DL.fl_cons, DL.fl_app, DL.fl_encP, Bool.and_self, Bool.and_true, Bool.true_and, List.set_set, ↓DL.w_yes, ↓DL.w_fld, ↓DL.w_mt, ↓DL.w_mtL, ↓DL.w_mt0, ↓DL.w_mt0L, ↓DL.w_ic, DL.isO_obj, ↓DL.w_make, ↓DL.w_b2M, ↓DL.w_b2MT, DL.c_intU, DL.c_intbU, ↓DL.w_mthL, ↓DL.w_uM, ↓DL.w_inv, ↓DL.w_bin_obj, ↓DL.w_bin_int, ↓DL.w_fldS, DL.m_fld, DL.atI_new, DL.putD, ↓DL.w_repL, ↓DL.w_isiC, ↓DL.w_par3, ↓DL.wPar3_3, DL.m_count, DL.wretL_new, DL.wret_new, ↓DL.c_setSort, DL.o_addI, DL.o_inS, DL.o_ninS, ↓DL.c_str, ↓DL.c_intSw, ↓DL.m_ext, DL.slt_l, DL.slt_t, DL.slt_r, ↓DL.c_dm, ↓DL.c_split, ↓DL.c_join, ↓DL.c_rep, ↓DL.x_str, ↓DL.o_catRL, ↓DL.o_addRL, ↓DL.wret_tup, ↓DL.wret_lst, List.take_length, List.length_cons, List.length_nil, List.length_map, Int.cast_ofNat_Int, Bool.not_true, Bool.not_false, Int.reduceAdd, Int.reduceSub, Int.reduceMul, Int.reduceNeg, Int.reduceEq, Int.reduceLT, Int.reduceLE, Nat.reduceAdd, Nat.reduceSub, eq_self, not_true_eq_false, not_false_eq_true, false_implies, implies_true, true_implies, ff_Nodes_held, ff_Program_own_nodes, fm_Program_accesses, isf_Nodes_Nodes, isf_Nodes_Program, isf_Nodes_0s, isf_Nodes_0i, isf_Nodes_0l, isf_Nodes_0t, isf_Nodes_0n, isf_Nodes_0b, isf_Program_Nodes, isf_Program_Program, isf_Program_0s, isf_Program_0i, isf_Program_0l, isf_Program_0t, isf_Program_0n, isf_Program_0b])
/-! programs written out -/
open MT MN
section
variable {S : Cells}
theorem step_of_ok {a b : Int} : g_step_of [.tup [.int a, .int b]] S = .ok (.int (stp a b)) S := by
  refine wp_ok ?_
  push_cast [g_step_of, B_step_of]
  exact ⟨fun q => by rw [stp, if_pos q], fun q => by rw [stp, if_neg q]⟩
theorem fl_ints {l : List Int} : flatL (l.map .int) = true := fl_map fun _ _ => fl_int
theorem flatL_rep {l : List D} {n : Nat} : flatL (List.replicate n l).flatten = (n == 0 || flatL l) := by
  induction n with
  | zero => rfl
  | succ n ih =>
    rw [List.replicate_succ, List.flatten_cons, show flatL (l ++ (List.replicate n l).flatten) = (flatL l && flatL (List.replicate n l).flatten) from fl_app, ih]
    cases flatL l <;> simp
theorem okMul_stp {a b : Int} {k : Nat} (hk : k ≤ 1000000) : okMul (stp a b) k = true := okMul_of 10 100 (by unfold stp; split <;> decide) (by
  have e : ((2 ^ 100 : Nat) : Int) = (2 : Int) ^ 100 := by simp
  have : (k : Nat) < 2 ^ 100 := by omega
  simpa using this) (by decide)
theorem listed_step {w h : Int} (hh : h ≤ (1000000000000000000000000000000 : Int)) (n : Nat) (ih : ∀ l, dps l < n → oks w h l → lens l ≤ 100000 → ∀ S, g_listed n [.tup (l.map eP)] S = .ok ((rdss l).map .int) S)
    (l : List Nd) (hl : dps l ≤ n) (hk : oks w h l) (hb : lens l ≤ 100000) (S : Cells) : g_listed (n + 1) [.tup (l.map eP)] S = .ok ((rdss l).map .int) S := by
  have zz := z24
  refine wp_ok ?_
  rw [show g_listed (n + 1) = bodyL 5 (B_listed (g_listed n)) from rfl]
  push_cast [B_listed]
  refine for_st (σ := List Nd × Option D × Option D × Option D) eP (fun σ => [some (.tup (l.map eP)), some (.ref S.length), σ.2.1, σ.2.2.1, σ.2.2.2]) (fun σ => S ++ [⟨true, .lst ((rdss σ.1).map .int)⟩]) (fun σ r => l = σ.1 ++ r) l ([], none, none, none) rfl ?_ ?_ rfl (by rw [rdss]; rfl)
  · rintro ⟨l1, x2, x3, x4⟩ m r e
    simp only at e
    have hm : m ∈ l := by rw [e]; simp
    have ho := ok_mem hk hm
    have hdm := dp_mem hm
    have hlm := len_mem hk hm
    have hlen := rdss_len (dps l) l (Nat.le_refl _) hk
    have hl1 : (rdss l).length = (rdss l1).length + ((rds m).length + (rdss r).length) := by rw [e, rdss_app, rdss, List.length_append, List.length_append]
    cases m with
    | sc a b =>
      have hs := scn_len (a := a) (b := b)
      have hp := sz_pos (a := a) (b := b)
      rw [len] at hlm
      rw [rds] at hl1
      push_cast [L1_listed, eP_sc, cut_1, List.drop_succ_cons, List.drop_zero, size_of_ok]
      push_cast [w_rangeI (show 0 ≤ sz a b by omega) (show sz a b ≤ (sizeLine : Nat) by omega)]
      refine comp_map_wp (fun k : Nat => D.int k) (fun k : Nat => .int (a + stp a b * k)) (List.range (sz a b).toNat) (fun k hk => ?_) ?_
      · have := List.mem_range.mp hk
        unfold cStep
        push_cast [step_of_ok, okMul_stp (a := a) (b := b) (show k ≤ 1000000 by omega)]
      rw [show (List.range (sz a b).toNat).map (fun k : Nat => D.int (a + stp a b * k)) = (scn a b).map .int by unfold scn; rw [List.map_map]; rfl]
      push_cast [fl_ints]
      exact ⟨by omega, (l1 ++ [.sc a b], _, _, _), rfl, by rw [rdss_app, rdss_one, rds, List.map_append], by rw [e, List.append_assoc]; rfl⟩
    | rp l2 t =>
      rw [dp] at hdm
      have hle := len_rp_le ho
      rw [ok] at ho
      have hlen2 := rdss_len (dps l2) l2 (Nat.le_refl _) ho.2.2
      have hp := len_one_pos (dps l2) l2 (Nat.le_refl _) ho.2.2 ho.1
      rw [len] at hlm hle
      rw [rds, len_flat] at hl1
      have ht : t ≤ 100000 := by
        have := Int.mul_le_mul_of_nonneg_right hp (show 0 ≤ t by omega)
        omega
      push_cast [L1_listed, eP_rp, s_rs, ih l2 (by omega) ho.2.2 (by omega)]
      push_cast [fl_ints, flatL_rep, len_flat]
      have hmul : t.toNat * (rdss l2).length ≤ 100000 := by omega
      refine ⟨⟨⟨by omega, by omega⟩, by rw [Nat.mul_comm]; omega⟩, by simp, by omega, (l1 ++ [.rp l2 t], _, _, _), rfl, ?_, by rw [e, List.append_assoc]; rfl⟩
      rw [rdss_app, rdss_one, rds, List.map_append, List.map_flatten, List.map_replicate]
  · rintro ⟨l1, x2, x3, x4⟩ e
    simp only [List.append_nil] at e
    subst e
    push_cast
theorem listed_ok {w h : Int} (hh : h ≤ (1000000000000000000000000000000 : Int)) : ∀ n l, dps l < n → oks w h l → lens l ≤ 100000 → ∀ S, g_listed n [.tup (l.map eP)] S = .ok ((rdss l).map .int) S := by
  intro n
  induction n with
  | zero => intro l hl; omega
  | succ n ih => intro l hl hk hb S; exact listed_step hh n ih l (by omega) hk hb S
theorem written_ok {w h : Int} {l : List Nd} (g : PG w h l) (hb : lens l ≤ 10000) : g_written [prog l] S = .ok ((rdss l).map .int) S := by
  have := g.d
  refine wp_ok ?_
  push_cast [g_written, B_written, req_prog, isC_acc, accesses_ok g]
  refine ⟨fun q => by omega, fun _ => ?_⟩
  push_cast [fld_prog, listed_ok g.hh 8 l (by omega) g.k (by omega), fl_ints]
end

end K26
end
section
set_option maxHeartbeats 4000000
set_option exponentiation.threshold 3000
namespace K26
open PySem PySem.Spec L2 DL
open PyProof.Rows hiding St
open Lean in
local macro_rules | `(tactic| push_cast [$ts,*]) => `(tactic| simp only [↓DL.r0, ↓DL.r1, ↓DL.r2, ↓DL.r3, ↓DL.r4, ↓DL.r5, ↓DL.r6, ↓DL.r7, ↓DL.r8, ↓DL.r9, ↓DL.r10, ↓DL.r11, ↓DL.r12, ↓DL.r13, ↓DL.r14, ↓DL.r15, ↓DL.r16, ↓DL.r17, ↓DL.r18, ↓DL.r19, ↓DL.r20, ↓DL.r21, ↓DL.r22, ↓DL.r23, ↓DL.r24, ↓DL.r25, ↓DL.r26, ↓DL.r27, ↓DL.r28, ↓DL.r29, DL.s0, DL.s1, DL.s2, DL.s3, DL.s4, DL.s5, DL.s6, DL.s7, DL.s8, DL.s9, DL.s10, DL.s11, DL.s12, DL.s13, DL.s14, DL.s15, DL.s16, DL.s17, DL.s18, DL.s19, DL.s20, DL.s21, DL.s22, DL.s23, DL.s24, DL.s25, DL.s26, DL.s27, DL.s28, DL.s29, DL.startD_cons, DL.startD_nil, DL.startD_zero, ↓DL.w_ok, ↓DL.w_some, ↓DL.w_somec, ↓DL.w_bind, ↓DL.w_opt, ↓DL.w_chg, ↓DL.w_kon, ↓DL.w_calm, ↓DL.w_b2, ↓DL.w_b2L, ↓DL.w_b1, ↓DL.wB_bl, ↓DL.w_asB, ↓DL.w_b2T, ↓DL.w_chE, ↓DL.w_chT, ↓DL.w_not, ↓DL.w_val, ↓DL.w_notE, ↓DL.w_ifE, ↓DL.w_ifL, ↓DL.w_andM, ↓DL.w_orM, ↓DL.w_andE, ↓DL.w_orE, ↓DL.w_nil, ↓DL.w_cons, ↓DL.w_tup, ↓DL.w_lst, ↓DL.w_frz, ↓DL.w_new, ↓DL.w_cel, ↓DL.w_cb, ↓DL.w_cbL, ↓DL.w_call, ↓DL.w_callL, ↓DL.w_ar0, ↓DL.w_ar1, ↓DL.w_ar2, ↓DL.w_ar3, ↓DL.w_ar4, ↓DL.w_ar5, ↓DL.w_ar6, ↓DL.w_noO, ↓DL.w_smO, ↓DL.w_sl, ↓DL.w_slL, ↓DL.w_rev, ↓DL.w_step, ↓DL.w_isi, ↓DL.w_sets, ↓DL.w_lrg, ↓DL.w_mth, ↓DL.w_mth0, ↓DL.w_itS, ↓DL.w_itR1, ↓DL.w_itR2, ↓DL.w_itR3, ↓DL.w_itZ, ↓DL.w_itN, ↓DL.w_lc, ↓DL.w_nx, ↓DL.w_rt, ↓DL.w_seq, ↓DL.w_set, ↓DL.wPar_2, ↓DL.w_par, ↓DL.w_aug, ↓DL.w_sto, ↓DL.w_exp, ↓DL.w_ret, ↓DL.w_retN, ↓DL.w_nxS, ↓DL.w_ifS, ↓DL.w_for, ↓DL.w_asg, ↓DL.w_stk, ↓DL.w_body, ↓DL.w_bodyL, ↓DL.wret_non, ↓DL.wret_bl, ↓DL.wret_int, ↓DL.wret_str, ↓DL.wif_t, ↓DL.wif_f, ↓DL.wif_d, ↓DL.wif_n, ↓DL.wif_a, ↓DL.wif_o, DL.few0, DL.few1, DL.few2, DL.few3, DL.few4, DL.few5, DL.few6, DL.few7, DL.few8, DL.few9, DL.few10, true_and, and_true, ↓DL.a_nm, ↓DL.a_tp1, ↓DL.a_tp2, ↓DL.a_tp3, ↓DL.a_tp4, ↓DL.a_tp5, ↓DL.a_tpn, ↓DL.a_tpm, ↓DL.a_encP, DL.wipe_nil, DL.wipe_cons, DL.o_add, DL.o_sub, DL.o_neg, ↓DL.o_mul, ↓DL.o_div, ↓DL.o_mod, DL.o_pow, ↓DL.o_p10_3, ↓DL.o_p10_4, ↓DL.o_p10_6, ↓DL.o_p10_8, ↓DL.o_p10_9, ↓DL.o_p10_12, ↓DL.o_p10_15, ↓DL.o_p10_18, ↓DL.o_p10_20, ↓DL.o_p10_25, ↓DL.o_p10_26, ↓DL.o_p10_27, ↓DL.o_p10_28, ↓DL.o_p10_29, ↓DL.o_p10_30, ↓DL.o_p10_31, ↓DL.o_p10_36, ↓DL.o_p10_38, ↓DL.o_p10_40, ↓DL.o_p10_42, ↓DL.o_p10_44, ↓DL.o_p10_46, ↓DL.o_p10_48, ↓DL.o_p10_50, ↓DL.o_p10_60, ↓DL.o_p10_64, ↓DL.o_p10_70, ↓DL.o_p10_90, ↓DL.o_p10_99, ↓DL.o_p10_100, ↓DL.o_addS, ↓DL.o_addT, ↓DL.o_catL, ↓DL.o_addL, DL.o_lt, DL.o_le, DL.o_gt, DL.o_ge, DL.o_eqI, DL.o_neI, DL.o_eqS, DL.o_neS, DL.o_is, DL.o_isn, DL.n_non, DL.n_bl, DL.n_int, DL.n_str, DL.n_lst, DL.n_tup, DL.n_ref, DL.n_obj, DL.i_non_int, DL.i_non_bool, DL.i_non_str, DL.i_non_list, DL.i_non_tuple, DL.i_bl_int, DL.i_bl_bool, DL.i_bl_str, DL.i_bl_list, DL.i_bl_tuple, DL.i_int_int, DL.i_int_bool, DL.i_int_str, DL.i_int_list, DL.i_int_tuple, DL.i_str_int, DL.i_str_bool, DL.i_str_str, DL.i_str_list, DL.i_str_tuple, DL.i_lst_int, DL.i_lst_bool, DL.i_lst_str, DL.i_lst_list, DL.i_lst_tuple, DL.i_tup_int, DL.i_tup_bool, DL.i_tup_str, DL.i_tup_list, DL.i_tup_tuple, DL.t_non, DL.t_bl, DL.t_int, DL.t_lst, DL.t_tup, ↓DL.x_lst, ↓DL.x_tup, ↓DL.x_encP0, ↓DL.x_encP1, DL.ixn1_0, DL.ixn1_m1, DL.ixn2_0, DL.ixn2_1, DL.ixn2_m1, DL.ixn3_0, DL.ixn3_1, DL.ixn3_2, DL.ixn3_m1, DL.ixn4_0, DL.ixn4_1, DL.ixn4_2, DL.ixn4_3, DL.ixn4_m1, DL.ixn5_0, DL.ixn5_1, DL.ixn5_2, DL.ixn5_3, DL.ixn5_4, DL.ixn5_m1, DL.ixn6_0, DL.ixn6_1, DL.ixn6_2, DL.ixn6_3, DL.ixn6_4, DL.ixn6_5, DL.ixn6_m1, DL.ixn7_0, DL.ixn7_1, DL.ixn7_2, DL.ixn7_3, DL.ixn7_4, DL.ixn7_5, DL.ixn7_6, DL.ixn7_m1, DL.ixn8_0, DL.ixn8_1, DL.ixn8_2, DL.ixn8_3, DL.ixn8_4, DL.ixn8_5, DL.ixn8_6, DL.ixn8_7, DL.ixn8_m1, ↓DL.x1_0, ↓DL.x1_m1, ↓DL.x2_0, ↓DL.x2_1, ↓DL.x2_m1, ↓DL.x3_0, ↓DL.x3_1, ↓DL.x3_2, ↓DL.x3_m1, ↓DL.x4_0, ↓DL.x4_1, ↓DL.x4_2, ↓DL.x4_3, ↓DL.x4_m1, ↓DL.x5_0, ↓DL.x5_1, ↓DL.x5_2, ↓DL.x5_3, ↓DL.x5_4, ↓DL.x5_m1, ↓DL.x6_0, ↓DL.x6_1, ↓DL.x6_2, ↓DL.x6_3, ↓DL.x6_4, ↓DL.x6_5, ↓DL.x6_m1, ↓DL.x7_0, ↓DL.x7_1, ↓DL.x7_2, ↓DL.x7_3, ↓DL.x7_4, ↓DL.x7_5, ↓DL.x7_6, ↓DL.x7_m1, ↓DL.x8_0, ↓DL.x8_1, ↓DL.x8_2, ↓DL.x8_3, ↓DL.x8_4, ↓DL.x8_5, ↓DL.x8_6, ↓DL.x8_7, ↓DL.x8_m1, DL.c_abs, DL.c_max2, DL.c_min2, DL.c_int, DL.c_intb, DL.c_lenS, DL.c_lenT, DL.c_lenL, DL.c_listT, DL.c_listL, DL.c_tupT, DL.c_tupL, DL.c_sum, DL.c_sum0, DL.c_all, DL.c_any, DL.c_minP, DL.c_maxP, DL.c_sortP, DL.c_zip, DL.c_enum, DL.c_range1, DL.c_range2, DL.g_lst, DL.g_tup, DL.g_str, DL.p_int, DL.sq_lst, DL.sl_lst, DL.sl_tup, DL.sl_str, DL.slL_lst, DL.om_some, List.set_cons_zero, List.set_cons_succ, DL.m_tyL, DL.m_tyS, DL.m_ty, DL.m_app, DL.m_sto, DL.m_fzL, DL.m_fzI, DL.m_fzT, DL.m_fz, DL.x_ref, DL.c_lenR, DL.c_listR, DL.c_tupR, DL.sl_ref, DL.atL_new, DL.atL_new1, DL.atL_new2, DL.atL_old, DL.set_new, DL.set_new1, DL.set_new2, DL.set_old, DL.take_app, DL.app_app, DL.cons_app, DL.nil_app, DL.len_app1, DL.len_app2, DL.len_app3, DL.len_set, DL.seq_new, DL.seq_new1, DL.seq_new2, DL.seq_old, DL.ex_some, DL.fl_non, DL.fl_int, DL.fl_bl, DL.fl_str, DL.fl_tup, DL.fl_lst, DL.fl_obj, DL.fl_nil, DL.fl_cons, DL.fl_app, DL.fl_encP, Bool.and_self, Bool.and_true, Bool.true_and, List.set_set, ↓DL.w_yes, ↓DL.w_fld, ↓DL.w_mt, ↓DL.w_mtL, ↓DL.w_mt0, ↓DL.w_mt0L, ↓DL.w_ic, DL.isO_obj, ↓DL.w_make, ↓DL.w_b2M, ↓DL.w_b2MT, DL.c_intU, DL.c_intbU, ↓DL.w_mthL, ↓DL.w_uM, ↓DL.w_inv, ↓DL.w_bin_obj, ↓DL.w_bin_int, ↓DL.w_fldS, DL.m_fld, DL.atI_new, DL.putD, ↓DL.w_repL, ↓DL.w_isiC, ↓DL.w_par3, ↓DL.wPar3_3, DL.m_count, DL.wretL_new, DL.wret_new, ↓DL.c_setSort, DL.o_addI, DL.o_inS, DL.o_ninS, ↓DL.c_str, ↓DL.c_intSw, ↓DL.m_ext, DL.slt_l, DL.slt_t, DL.slt_r, ↓DL.c_dm, ↓DL.c_split, ↓DL.c_join, ↓DL.c_rep, ↓DL.x_str, ↓DL.o_catRL, ↓DL.o_addRL, ↓DL.wret_tup, ↓DL.wret_lst, List.take_length, List.length_cons, List.length_nil, List.length_map, Int.cast_ofNat_Int, Bool.not_true, Bool.not_false, Int.reduceAdd, Int.reduceSub, Int.reduceMul, Int.reduceNeg, Int.reduceEq, Int.reduceLT, Int.reduceLE, Nat.reduceAdd, Nat.reduceSub, eq_self, not_true_eq_false, not_false_eq_true, false_implies, implies_true, true_implies, ff_Nodes_held, ff_Program_own_nodes, fm_Program_accesses, isf_Nodes_Nodes, isf_Nodes_Program, isf_Nodes_0s, isf_Nodes_0i, isf_Nodes_0l, isf_Nodes_0t, isf_Nodes_0n, isf_Nodes_0b, isf_Program_Nodes, isf_Program_Program, isf_Program_0s, isf_Program_0i, isf_Program_0l, isf_Program_0t, isf_Program_0n, isf_Program_0b, $ts,*])
open Lean in
local macro_rules | `(tactic| push_cast) => `(tactic| simp only [↓DL.r0, ↓DL.r1, ↓DL.r2, ↓DL.r3, ↓DL.r4, ↓DL.r5, ↓DL.r6, ↓DL.r7, ↓DL.r8, ↓DL.r9, ↓DL.r10, ↓DL.r11, ↓DL.r12, ↓DL.r13, ↓DL.r14, ↓DL.r15, ↓DL.r16, ↓DL.r17, ↓DL.r18, ↓DL.r19, ↓DL.r20, ↓DL.r21, ↓DL.r22, ↓DL.r23, ↓DL.r24, ↓DL.r25, ↓DL.r26, ↓DL.r27, ↓DL.r28, ↓DL.r29, DL.s0, DL.s1, DL.s2, DL.s3, DL.s4, DL.s5, DL.s6, DL.s7, DL.s8, DL.s9, DL.s10, DL.s11, DL.s12, DL.s13, DL.s14, DL.s15, DL.s16, DL.s17, DL.s18, DL.s19, DL.s20, DL.s21, DL.s22, DL.s23, DL.s24, DL.s25, DL.s26, DL.s27, DL.s28, DL.s29, DL.startD_cons, DL.startD_nil, DL.startD_zero, ↓DL.w_ok, ↓DL.w_some, ↓DL.w_somec, ↓DL.w_bind, ↓DL.w_opt, ↓DL.w_chg, ↓DL.w_kon, ↓DL.w_calm, ↓DL.w_b2, ↓DL.w_b2L, ↓DL.w_b1, ↓DL.wB_bl, ↓DL.w_asB, ↓DL.w_b2T, ↓DL.w_chE, ↓DL.w_chT, ↓DL.w_not, ↓DL.w_val, ↓DL.w_notE, ↓DL.w_ifE, ↓DL.w_ifL, ↓DL.w_andM, ↓DL.w_orM, ↓DL.w_andE, ↓DL.w_orE, ↓DL.w_nil, ↓DL.w_cons, ↓DL.w_tup, ↓DL.w_lst, ↓DL.w_frz, ↓DL.w_new, ↓DL.w_cel, ↓DL.w_cb, ↓DL.w_cbL, ↓DL.w_call, ↓DL.w_callL, ↓DL.w_ar0, ↓DL.w_ar1, ↓DL.w_ar2, ↓DL.w_ar3, ↓DL.w_ar4, ↓DL.w_ar5, ↓DL.w_ar6, ↓DL.w_noO, ↓DL.w_smO, ↓DL.w_sl, ↓DL.w_slL, ↓DL.w_rev, ↓DL.w_step, ↓DL.w_isi, ↓DL.w_sets, ↓DL.w_lrg, ↓DL.w_mth, ↓DL.w_mth0, ↓DL.w_itS, ↓DL.w_itR1, ↓DL.w_itR2, ↓DL.w_itR3, ↓DL.w_itZ, ↓DL.w_itN, ↓DL.w_lc, ↓DL.w_nx, ↓DL.w_rt, ↓DL.w_seq, ↓DL.w_set, ↓DL.wPar_2, ↓DL.w_par, ↓DL.w_aug, ↓DL.w_sto, ↓DL.w_exp, ↓DL.w_ret, ↓DL.w_retN, ↓DL.w_nxS, ↓DL.w_ifS, ↓DL.w_for, ↓DL.w_asg, ↓DL.w_stk, ↓DL.w_body, ↓DL.w_bodyL, ↓DL.wret_non, ↓DL.wret_bl, ↓DL.wret_int, ↓DL.wret_str, ↓DL.wif_t, ↓DL.wif_f, ↓DL.wif_d, ↓DL.wif_n, ↓DL.wif_a, ↓DL.wif_o, DL.few0, DL.few1, DL.few2, DL.few3, DL.few4, DL.few5, DL.few6, DL.few7, DL.few8, DL.few9, DL.few10, true_and, and_true, ↓DL.a_nm, ↓DL.a_tp1, ↓DL.a_tp2, ↓DL.a_tp3, ↓DL.a_tp4, ↓DL.a_tp5, ↓DL.a_tpn, ↓DL.a_tpm, ↓DL.a_encP, DL.wipe_nil, DL.wipe_cons, DL.o_add, DL.o_sub, DL.o_neg, ↓DL.o_mul, ↓DL.o_div, ↓DL.o_mod, DL.o_pow, ↓DL.o_p10_3, ↓DL.o_p10_4, ↓DL.o_p10_6, ↓DL.o_p10_8, ↓DL.o_p10_9, ↓DL.o_p10_12, ↓DL.o_p10_15, ↓DL.o_p10_18, ↓DL.o_p10_20, ↓DL.o_p10_25, ↓DL.o_p10_26, ↓DL.o_p10_27, ↓DL.o_p10_28, ↓DL.o_p10_29, ↓DL.o_p10_30, ↓DL.o_p10_31, ↓DL.o_p10_36, ↓DL.o_p10_38, ↓DL.o_p10_40, ↓DL.o_p10_42, ↓DL.o_p10_44, ↓DL.o_p10_46, ↓DL.o_p10_48, ↓DL.o_p10_50, ↓DL.o_p10_60, ↓DL.o_p10_64, ↓DL.o_p10_70, ↓DL.o_p10_90, ↓DL.o_p10_99, ↓DL.o_p10_100, ↓DL.o_addS, ↓DL.o_addT, ↓DL.o_catL, ↓DL.o_addL, DL.o_lt, DL.o_le, DL.o_gt, DL.o_ge, DL.o_eqI, DL.o_neI, DL.o_eqS, DL.o_neS, DL.o_is, DL.o_isn, DL.n_non, DL.n_bl, DL.n_int, DL.n_str, DL.n_lst, DL.n_tup, DL.n_ref, DL.n_obj, DL.i_non_int, DL.i_non_bool, DL.i_non_str, DL.i_non_list, DL.i_non_tuple, DL.i_bl_int, DL.i_bl_bool, DL.i_bl_str, DL.i_bl_list, DL.i_bl_tuple, DL.i_int_int, DL.i_int_bool, DL.i_int_str, DL.i_int_list, DL.i_int_tuple, DL.i_str_int, DL.i_str_bool, DL.i_str_str, DL.i_str_list, DL.i_str_tuple, DL.i_lst_int, DL.i_lst_bool, DL.i_lst_str, DL.i_lst_list, DL.i_lst_tuple, DL.i_tup_int, DL.i_tup_bool, DL.i_tup_str, DL.i_tup_list, DL.i_tup_tuple, DL.t_non, DL.t_bl, DL.t_int, DL.t_lst, DL.t_tup, ↓DL.x_lst, ↓DL.x_tup, ↓DL.x_encP0, ↓DL.x_encP1, DL.ixn1_0, DL.ixn1_m1, DL.ixn2_0, DL.ixn2_1, DL.ixn2_m1, DL.ixn3_0, DL.ixn3_1, DL.ixn3_2, DL.ixn3_m1, DL.ixn4_0, DL.ixn4_1, DL.ixn4_2, DL.ixn4_3, DL.ixn4_m1, DL.ixn5_0, DL.ixn5_1, DL.ixn5_2, DL.ixn5_3, DL.ixn5_4, DL.ixn5_m1, DL.ixn6_0, DL.ixn6_1, DL.ixn6_2, DL.ixn6_3, DL.ixn6_4, DL.ixn6_5, DL.ixn6_m1, DL.ixn7_0, DL.ixn7_1, DL.ixn7_2, DL.ixn7_3, DL.ixn7_4, DL.ixn7_5, DL.ixn7_6, DL.ixn7_m1, DL.ixn8_0, DL.ixn8_1, DL.ixn8_2, DL.ixn8_3, DL.ixn8_4, DL.ixn8_5, DL.ixn8_6, DL.ixn8_7, DL.ixn8_m1, ↓DL.x1_0, ↓DL.x1_m1, ↓DL.x2_0, ↓DL.x2_1, ↓DL.x2_m1, ↓DL.x3_0, ↓DL.x3_1, ↓DL.x3_2, ↓DL.x3_m1, ↓DL.x4_0, ↓DL.x4_1, ↓DL.x4_2, ↓DL.x4_3, ↓DL.x4_m1, ↓DL.x5_0, ↓DL.x5_1, ↓DL.x5_2, ↓DL.x5_3, ↓DL.x5_4, ↓DL.x5_m1, ↓DL.x6_0, ↓DL.x6_1, ↓DL.x6_2, ↓DL.x6_3, ↓DL.x6_4, ↓DL.x6_5, ↓DL.x6_m1, ↓DL.x7_0, ↓DL.x7_1, ↓DL.x7_2, ↓DL.x7_3, ↓DL.x7_4, ↓DL.x7_5, ↓DL.x7_6, ↓DL.x7_m1, ↓DL.x8_0, ↓DL.x8_1, ↓DL.x8_2, ↓DL.x8_3, ↓DL.x8_4, ↓DL.x8_5, ↓DL.x8_6, ↓DL.x8_7, ↓DL.x8_m1, DL.c_abs, DL.c_max2, DL.c_min2, DL.c_int, DL.c_intb, DL.c_lenS, DL.c_lenT, DL.c_lenL, DL.c_listT, DL.c_listL, DL.c_tupT, DL.c_tupL, DL.c_sum, DL.c_sum0, DL.c_all, DL.c_any, DL.c_minP, DL.c_maxP, DL.c_sortP, DL.c_zip, DL.c_enum, DL.c_range1, DL.c_range2, DL.g_lst, DL.g_tup, DL.g_str, DL.p_int, DL.sq_lst, DL.sl_lst, DL.sl_tup, DL.sl_str, DL.slL_lst, DL.om_some, List.set_cons_zero, List.set_cons_succ, DL.m_tyL, DL.m_tyS, DL.m_ty, DL.m_app, DL.m_sto, DL.m_fzL, DL.m_fzI, DL.m_fzT, DL.m_fz, DL.x_ref, DL.c_lenR, DL.c_listR, DL.c_tupR, DL.sl_ref, DL.atL_new, DL.atL_new1, DL.atL_new2, DL.atL_old, DL.set_new, DL.set_new1, DL.set_new2, DL.set_old, DL.take_app, DL.app_app, DL.cons_app, DL.nil_app, DL.len_app1, DL.len_app2, DL.len_app3, DL.len_set, DL.seq_new, DL.seq_new1, DL.seq_new2, DL.seq_old, DL.ex_some, DL.fl_non, DL.fl_int, DL.fl_bl, DL.fl_str, DL.fl_tup, DL.fl_lst, DL.fl_obj, DL.fl_nil, DL.fl_cons, DL.fl_app, DL.fl_encP, Bool.and_self, Bool.and_true, Bool.true_and, List.set_set, ↓DL.w_yes, ↓DL.w_fld, ↓DL.w_mt, ↓DL.w_mtL, ↓DL.w_mt0, ↓DL.w_mt0L, ↓DL.w_ic, DL.isO_obj, ↓DL.w_make, ↓DL.w_b2M, ↓DL.w_b2MT, DL.c_intU, DL.c_intbU, ↓DL.w_mthL, ↓DL.w_uM, ↓DL.w_inv, ↓DL.w_bin_obj, ↓DL.w_bin_int, ↓DL.w_fldS, DL.m_fld, DL.atI_new, DL.putD, ↓DL.w_repL, ↓DL.w_isiC, ↓DL.w_par3, ↓DL.wPar3_3, DL.m_count, DL.wretL_new, DL.wret_new, ↓DL.c_setSort, DL.o_addI, DL.o_inS, DL.o_ninS, ↓DL.c_str, ↓DL.c_intSw, ↓DL.m_ext, DL.slt_l, DL.slt_t, DL.slt_r, ↓DL.c_dm, ↓DL.c_split, ↓DL.c_join, ↓DL.c_rep, ↓DL.x_str, ↓DL.o_catRL, ↓DL.o_addRL, ↓DL.wret_tup, ↓DL.wret_lst, List.take_length, List.length_cons, List.length_nil, List.length_map, Int.cast_ofNat_Int, Bool.not_true, Bool.not_false, Int.reduceAdd, Int.reduceSub, Int.reduceMul, Int.reduceNeg, Int.reduceEq, Int.reduceLT, Int.reduceLE, Nat.reduceAdd, Nat.reduceSub, eq_self, not_true_eq_false, not_false_eq_true, false_implies, implies_true, true_implies, ff_Nodes_held, ff_Program_own_nodes, fm_Program_accesses, isf_Nodes_Nodes, isf_Nodes_Program, isf_Nodes_0s, isf_Nodes_0i, isf_Nodes_0l, isf_Nodes_0t, isf_Nodes_0n, isf_Nodes_0b, isf_Program_Nodes, isf_Program_Program, isf_Program_0s, isf_Program_0i, isf_Program_0l, isf_Program_0t, isf_Program_0n, isf_Program_0b])
/-! single accesses -/
open MT MN
section
variable {S : Cells}
theorem okMul_stp2 {a b k : Int} (hk : Big k) : okMul (stp a b) k = true := okMul_of 10 1400 (by unfold stp; split <;> decide) (by
  have e : ((2 ^ 1400 : Nat) : Int) = (2 : Int) ^ 1400 := by simp
  have := hk.1; have := hk.2; omega) (by decide)
theorem rdss_get {l1 r : List Nd} {m : Nd} {i k : Nat} (e : i = (rdss l1).length + k) (hk : k < (rds m).length) : (rdss (l1 ++ m :: r)).getD i 0 = (rds m).getD k 0 := by
  subst e
  rw [rdss_app, rdss, List.getD_eq_getElem?_getD, List.getD_eq_getElem?_getD, List.getElem?_append_right (by omega), Nat.add_sub_cancel_left, List.getElem?_append_left hk]
theorem addr_step {w h : Int} (hh : h ≤ (1000000000000000000000000000000 : Int)) (n : Nat) (hn : n ≤ 7) (ih : ∀ l, dps l < n → oks w h l → lens l < 10 ^ 400 → ∀ i : Nat, (i : Int) < lens l → ∀ S, g_address_in n [.tup (l.map eP), .int i] S = .ok (.int ((rdss l).getD i 0)) S)
    (l : List Nd) (hl : dps l ≤ n) (hk : oks w h l) (hb : lens l < 10 ^ 400) (i : Nat) (hi : (i : Int) < lens l) (S : Cells) : g_address_in (n + 1) [.tup (l.map eP), .int i] S = .ok (.int ((rdss l).getD i 0)) S := by
  refine wp_ok ?_
  rw [show g_address_in (n + 1) = bodyD 4 (B_address_in (g_address_in n)) from rfl]
  push_cast [B_address_in]
  refine for_st (σ := List Nd × Option D × Option D) eP (fun σ => [some (.tup (l.map eP)), some (.int (i - lens σ.1)), σ.2.1, σ.2.2]) (fun _ => S) (fun σ r => l = σ.1 ++ r ∧ lens σ.1 ≤ i) l ([], none, none) ⟨rfl, by rw [lens]; omega⟩ ?_ ?_ (by simp [lens]) rfl
  · rintro ⟨l1, x2, x3⟩ m r ⟨e, hle⟩
    simp only at e hle
    have hm : m ∈ l := by rw [e]; simp
    have ho := ok_mem hk hm
    have hdm := dp_mem hm
    have hlm := len_mem hk hm
    have hpm := len_pos ho
    have hk1 : oks w h l1 := ((oks_app l1 (m :: r)).mp (e ▸ hk)).1
    have hl1 := rdss_len (dps l1) l1 (Nat.le_refl _) hk1
    obtain ⟨k, hki⟩ : ∃ k : Nat, (i : Int) - lens l1 = k := ⟨((i : Int) - lens l1).toNat, by omega⟩
    have hik : i = (rdss l1).length + k := by omega
    have hlenm : ((rds m).length : Int) = len m := by
      have := rdss_len (dps [m]) [m] (Nat.le_refl _) ((oks_one m).mpr ho)
      rwa [rdss_one, lens_one] at this
    have hacc := acc_ok hh 8 [m] (by rw [dps_one]; omega) ((oks_one (w := w) (h := h) m).mpr ho) (by rw [lens_one]; omega) S
    rw [List.map_cons, List.map_nil, lens_one] at hacc
    rw [hki]
    push_cast [L1_address_in, hacc]
    by_cases hkm : (k : Int) < len m
    · have hget : (rdss l).getD i 0 = (rds m).getD k 0 := by rw [e]; exact rdss_get hik (by omega)
      cases m with
      | sc a b =>
        rw [rds] at hget
        have hv : (scn a b).getD k 0 = a + stp a b * k := by
          rw [len] at hkm
          rw [List.getD_eq_getElem?_getD, scn_get hkm]
          rfl
        push_cast [eP_sc, cut_1, List.drop_succ_cons, List.drop_zero, step_of_ok, okMul_stp2 (a := a) (b := b) (k := (k : Int)) ⟨by omega, by omega⟩, hget, hv]
        exact fun q => absurd hkm q
      | rp l2 t =>
        rw [rds] at hget
        have hle2 := len_rp_le ho
        have ho2 := ho
        rw [ok] at ho2
        rw [dp] at hdm
        have hp2 := len_one_pos (dps l2) l2 (Nat.le_refl _) ho2.2.2 ho2.1
        have hl2 := rdss_len (dps l2) l2 (Nat.le_refl _) ho2.2.2
        have hmod : (k : Int) % lens l2 = ((k % (rdss l2).length : Nat) : Int) := by rw [← hl2]; rfl
        have hlt : k % (rdss l2).length < (rdss l2).length := Nat.mod_lt _ (by omega)
        have hrr := ih l2 (by omega) ho2.2.2 (by omega) (k % (rdss l2).length) (by omega) S
        rw [← hmod] at hrr
        have hv : ((List.replicate t.toNat (rdss l2)).flatten).getD k 0 = (rdss l2).getD (k % (rdss l2).length) 0 := by
          rw [List.getD_eq_getElem?_getD, rep_get, List.getD_eq_getElem?_getD]
          rw [rds, len_flat] at hlenm
          omega
        push_cast [eP_rp, s_rs]
        refine ⟨fun _ => ⟨fun _ => ?_, fun q => absurd hkm q⟩, fun q => absurd hkm q⟩
        push_cast [acc_ok hh 8 l2 (by omega) ho2.2.2 (by omega), hrr, hget, hv]
        omega
    · have hnew : ∀ x2 x3, ∃ s' : List Nd × Option D × Option D, [some (D.tup (List.map eP l)), some (D.int (k - len m)), x2, x3] = [some (D.tup (List.map eP l)), some (D.int (i - lens s'.1)), s'.2.1, s'.2.2] ∧ l = s'.1 ++ r ∧ lens s'.1 ≤ i := fun x2 x3 =>
        ⟨(l1 ++ [m], x2, x3), by rw [lens_app, lens_one]; rw [show (k : Int) - len m = i - (lens l1 + len m) by omega], by rw [e, List.append_assoc]; rfl, by rw [lens_app, lens_one]; omega⟩
      cases m with
      | sc a b =>
        push_cast [eP_sc]
        exact ⟨fun q => absurd q hkm, fun _ => ⟨fun q => absurd q hkm, fun _ => hnew _ _⟩⟩
      | rp l2 t =>
        push_cast [eP_rp, s_rs]
        exact ⟨fun q => absurd q hkm, fun _ => ⟨fun q => absurd q hkm, fun _ => hnew _ _⟩⟩
  · rintro ⟨l1, x2, x3⟩ ⟨e, hle⟩
    simp only [List.append_nil] at e hle
    subst e
    omega
theorem addr_ok {w h : Int} (hh : h ≤ (1000000000000000000000000000000 : Int)) : ∀ n, n ≤ 8 → ∀ l, dps l < n → oks w h l → lens l < 10 ^ 400 → ∀ i : Nat, (i : Int) < lens l → ∀ S, g_address_in n [.tup (l.map eP), .int i] S = .ok (.int ((rdss l).getD i 0)) S := by
  intro n
  induction n with
  | zero => intro _ l hl; omega
  | succ n ih => intro hn l hl hk hb i hi S; exact addr_step hh n (by omega) (ih (by omega)) l (by omega) hk hb i hi S
theorem req_index {i : Nat} {m : Int} (h : (i : Int) < m) : g_require_index [.int i, .int m] S = .ok .non S := by
  refine wp_ok ?_
  push_cast [g_require_index, B_require_index, in_range_ok (show (0 : Int) ≤ i by omega) (show (i : Int) ≤ m - 1 by omega)]
theorem address_at_ok {w h : Int} {l : List Nd} (g : PG w h l) {i : Nat} (hi : (i : Int) < lens l) : g_address_at [prog l, .int i] S = .ok (.int ((rdss l).getD i 0)) S := by
  have := g.d
  refine wp_ok ?_
  push_cast [g_address_at, B_address_at, req_prog, isC_acc, accesses_ok g, req_index hi, fld_prog, addr_ok g.hh 8 (by omega) l (by omega) g.k g.b i hi]
end

end K26
end
section
set_option maxHeartbeats 4000000
set_option exponentiation.threshold 3000
namespace K26
open PySem PySem.Spec L2 DL
open PyProof.Rows hiding St
open Lean in
local macro_rules | `(tactic| push_cast [$ts,*]) => `(tactic| simp only [↓DL.r0, ↓DL.r1, ↓DL.r2, ↓DL.r3, ↓DL.r4, ↓DL.r5, ↓DL.r6, ↓DL.r7, ↓DL.r8, ↓DL.r9, ↓DL.r10, ↓DL.r11, ↓DL.r12, ↓DL.r13, ↓DL.r14, ↓DL.r15, ↓DL.r16, ↓DL.r17, ↓DL.r18, ↓DL.r19, ↓DL.r20, ↓DL.r21, ↓DL.r22, ↓DL.r23, ↓DL.r24, ↓DL.r25, ↓DL.r26, ↓DL.r27, ↓DL.r28, ↓DL.r29, DL.s0, DL.s1, DL.s2, DL.s3, DL.s4, DL.s5, DL.s6, DL.s7, DL.s8, DL.s9, DL.s10, DL.s11, DL.s12, DL.s13, DL.s14, DL.s15, DL.s16, DL.s17, DL.s18, DL.s19, DL.s20, DL.s21, DL.s22, DL.s23, DL.s24, DL.s25, DL.s26, DL.s27, DL.s28, DL.s29, DL.startD_cons, DL.startD_nil, DL.startD_zero, ↓DL.w_ok, ↓DL.w_some, ↓DL.w_somec, ↓DL.w_bind, ↓DL.w_opt, ↓DL.w_chg, ↓DL.w_kon, ↓DL.w_calm, ↓DL.w_b2, ↓DL.w_b2L, ↓DL.w_b1, ↓DL.wB_bl, ↓DL.w_asB, ↓DL.w_b2T, ↓DL.w_chE, ↓DL.w_chT, ↓DL.w_not, ↓DL.w_val, ↓DL.w_notE, ↓DL.w_ifE, ↓DL.w_ifL, ↓DL.w_andM, ↓DL.w_orM, ↓DL.w_andE, ↓DL.w_orE, ↓DL.w_nil, ↓DL.w_cons, ↓DL.w_tup, ↓DL.w_lst, ↓DL.w_frz, ↓DL.w_new, ↓DL.w_cel, ↓DL.w_cb, ↓DL.w_cbL, ↓DL.w_call, ↓DL.w_callL, ↓DL.w_ar0, ↓DL.w_ar1, ↓DL.w_ar2, ↓DL.w_ar3, ↓DL.w_ar4, ↓DL.w_ar5, ↓DL.w_ar6, ↓DL.w_noO, ↓DL.w_smO, ↓DL.w_sl, ↓DL.w_slL, ↓DL.w_rev, ↓DL.w_step, ↓DL.w_isi, ↓DL.w_sets, ↓DL.w_lrg, ↓DL.w_mth, ↓DL.w_mth0, ↓DL.w_itS, ↓DL.w_itR1, ↓DL.w_itR2, ↓DL.w_itR3, ↓DL.w_itZ, ↓DL.w_itN, ↓DL.w_lc, ↓DL.w_nx, ↓DL.w_rt, ↓DL.w_seq, ↓DL.w_set, ↓DL.wPar_2, ↓DL.w_par, ↓DL.w_aug, ↓DL.w_sto, ↓DL.w_exp, ↓DL.w_ret, ↓DL.w_retN, ↓DL.w_nxS, ↓DL.w_ifS, ↓DL.w_for, ↓DL.w_asg, ↓DL.w_stk, ↓DL.w_body, ↓DL.w_bodyL, ↓DL.wret_non, ↓DL.wret_bl, ↓DL.wret_int, ↓DL.wret_str, ↓DL.wif_t, ↓DL.wif_f, ↓DL.wif_d, ↓DL.wif_n, ↓DL.wif_a, ↓DL.wif_o, DL.few0, DL.few1, DL.few2, DL.few3, DL.few4, DL.few5, DL.few6, DL.few7, DL.few8, DL.few9, DL.few10, true_and, and_true, ↓DL.a_nm, ↓DL.a_tp1, ↓DL.a_tp2, ↓DL.a_tp3, ↓DL.a_tp4, ↓DL.a_tp5, ↓DL.a_tpn, ↓DL.a_tpm, ↓DL.a_encP, DL.wipe_nil, DL.wipe_cons, DL.o_add, DL.o_sub, DL.o_neg, ↓DL.o_mul, ↓DL.o_div, ↓DL.o_mod, DL.o_pow, ↓DL.o_p10_3, ↓DL.o_p10_4, ↓DL.o_p10_6, ↓DL.o_p10_8, ↓DL.o_p10_9, ↓DL.o_p10_12, ↓DL.o_p10_15, ↓DL.o_p10_18, ↓DL.o_p10_20, ↓DL.o_p10_25, ↓DL.o_p10_26, ↓DL.o_p10_27, ↓DL.o_p10_28, ↓DL.o_p10_29, ↓DL.o_p10_30, ↓DL.o_p10_31, ↓DL.o_p10_36, ↓DL.o_p10_38, ↓DL.o_p10_40, ↓DL.o_p10_42, ↓DL.o_p10_44, ↓DL.o_p10_46, ↓DL.o_p10_48, ↓DL.o_p10_50, ↓DL.o_p10_60, ↓DL.o_p10_64, ↓DL.o_p10_70, ↓DL.o_p10_90, ↓DL.o_p10_99, ↓DL.o_p10_100, ↓DL.o_addS, ↓DL.o_addT, ↓DL.o_catL, ↓DL.o_addL, DL.o_lt, DL.o_le, DL.o_gt, DL.o_ge, DL.o_eqI, DL.o_neI, DL.o_eqS, DL.o_neS, DL.o_is, DL.o_isn, DL.n_non, DL.n_bl, DL.n_int, DL.n_str, DL.n_lst, DL.n_tup, DL.n_ref, DL.n_obj, DL.i_non_int, DL.i_non_bool, DL.i_non_str, DL.i_non_list, DL.i_non_tuple, DL.i_bl_int, DL.i_bl_bool, DL.i_bl_str, DL.i_bl_list, DL.i_bl_tuple, DL.i_int_int, DL.i_int_bool, DL.i_int_str, DL.i_int_list, DL.i_int_tuple, DL.i_str_int, DL.i_str_bool, DL.i_str_str, DL.i_str_list, DL.i_str_tuple, DL.i_lst_int, DL.i_lst_bool, DL.i_lst_str, DL.i_lst_list, DL.i_lst_tuple, DL.i_tup_int, DL.i_tup_bool, DL.i_tup_str, DL.i_tup_list, DL.i_tup_tuple, DL.t_non, DL.t_bl, DL.t_int, DL.t_lst, DL.t_tup, ↓DL.x_lst, ↓DL.x_tup, ↓DL.x_encP0, ↓DL.x_encP1, DL.ixn1_0, DL.ixn1_m1, DL.ixn2_0, DL.ixn2_1, DL.ixn2_m1, DL.ixn3_0, DL.ixn3_1, DL.ixn3_2, DL.ixn3_m1, DL.ixn4_0, DL.ixn4_1, DL.ixn4_2, DL.ixn4_3, DL.ixn4_m1, DL.ixn5_0, DL.ixn5_1, DL.ixn5_2, DL.ixn5_3, DL.ixn5_4, DL.ixn5_m1, DL.ixn6_0, DL.ixn6_1, DL.ixn6_2, DL.ixn6_3, DL.ixn6_4, DL.ixn6_5, DL.ixn6_m1, DL.ixn7_0, DL.ixn7_1, DL.ixn7_2, DL.ixn7_3, DL.ixn7_4, DL.ixn7_5, DL.ixn7_6, DL.ixn7_m1, DL.ixn8_0, DL.ixn8_1, DL.ixn8_2, DL.ixn8_3, DL.ixn8_4, DL.ixn8_5, DL.ixn8_6, DL.ixn8_7, DL.ixn8_m1, ↓DL.x1_0, ↓DL.x1_m1, ↓DL.x2_0, ↓DL.x2_1, ↓DL.x2_m1, ↓DL.x3_0, ↓DL.x3_1, ↓DL.x3_2, ↓DL.x3_m1, ↓DL.x4_0, ↓DL.x4_1, ↓DL.x4_2, ↓DL.x4_3, ↓DL.x4_m1, ↓DL.x5_0, ↓DL.x5_1, ↓DL.x5_2, ↓DL.x5_3, ↓DL.x5_4, ↓DL.x5_m1, ↓DL.x6_0, ↓DL.x6_1, ↓DL.x6_2, ↓DL.x6_3, ↓DL.x6_4, ↓DL.x6_5, ↓DL.x6_m1, ↓DL.x7_0, ↓DL.x7_1, ↓DL.x7_2, ↓DL.x7_3, ↓DL.x7_4, ↓DL.x7_5, ↓DL.x7_6, ↓DL.x7_m1, ↓DL.x8_0, ↓DL.x8_1, ↓DL.x8_2, ↓DL.x8_3, ↓DL.x8_4, ↓DL.x8_5, ↓DL.x8_6, ↓DL.x8_7, ↓DL.x8_m1, DL.c_abs, DL.c_max2, DL.c_min2, DL.c_int, DL.c_intb, DL.c_lenS, DL.c_lenT, DL.c_lenL, DL.c_listT, DL.c_listL, DL.c_tupT, DL.c_tupL, DL.c_sum, DL.c_sum0, DL.c_all, DL.c_any, DL.c_minP, DL.c_maxP, DL.c_sortP, DL.c_zip, DL.c_enum, DL.c_range1, DL.c_range2, DL.g_lst, DL.g_tup, DL.g_str, DL.p_int, DL.sq_lst, DL.sl_lst, DL.sl_tup, DL.sl_str, DL.slL_lst, DL.om_some, List.set_cons_zero, List.set_cons_succ, DL.m_tyL, DL.m_tyS, DL.m_ty, DL.m_app, DL.m_sto, DL.m_fzL, DL.m_fzI, DL.m_fzT, DL.m_fz, DL.x_ref, DL.c_lenR, DL.c_listR, DL.c_tupR, DL.sl_ref, DL.atL_new, DL.atL_new1, DL.atL_new2, DL.atL_old, DL.set_new, DL.set_new1, DL.set_new2, DL.set_old, DL.take_app, DL.app_app, DL.cons_app, DL.nil_app, DL.len_app1, DL.len_app2, DL.len_app3, DL.len_set, DL.seq_new, DL.seq_new1, DL.seq_new2, DL.seq_old, DL.ex_some, DL.fl_non, DL.fl_int, DL.fl_bl, DL.fl_str, DL.fl_tup, DL.fl_lst, DL.fl_obj, DL.fl_nil, DL.fl_cons, DL.fl_app, DL.fl_encP, Bool.and_self, Bool.and_true, Bool.true_and, List.set_set, ↓DL.w_yes, ↓DL.w_fld, ↓DL.w_mt, ↓DL.w_mtL, ↓DL.w_mt0, ↓DL.w_mt0L, ↓DL.w_ic, DL.isO_obj, ↓DL.w_make, ↓DL.w_b2M, ↓DL.w_b2MT, DL.c_intU, DL.c_intbU, ↓DL.w_mthL, ↓DL.w_uM, ↓DL.w_inv, ↓DL.w_bin_obj, ↓DL.w_bin_int, ↓DL.w_fldS, DL.m_fld, DL.atI_new, DL.putD, ↓DL.w_repL, ↓DL.w_isiC, ↓DL.w_par3, ↓DL.wPar3_3, DL.m_count, DL.wretL_new, DL.wret_new, ↓DL.c_setSort, DL.o_addI, DL.o_inS, DL.o_ninS, ↓DL.c_str, ↓DL.c_intSw, ↓DL.m_ext, DL.slt_l, DL.slt_t, DL.slt_r, ↓DL.c_dm, ↓DL.c_split, ↓DL.c_join, ↓DL.c_rep, ↓DL.x_str, ↓DL.o_catRL, ↓DL.o_addRL, ↓DL.wret_tup, ↓DL.wret_lst, List.take_length, List.length_cons, List.length_nil, List.length_map, Int.cast_ofNat_Int, Bool.not_true, Bool.not_false, Int.reduceAdd, Int.reduceSub, Int.reduceMul, Int.reduceNeg, Int.reduceEq, Int.reduceLT, Int.reduceLE, Nat.reduceAdd, Nat.reduceSub, eq_self, not_true_eq_false, not_false_eq_true, false_implies, implies_true, true_implies, ff_Nodes_held, ff_Program_own_nodes, fm_Program_accesses, isf_Nodes_Nodes, isf_Nodes_Program, isf_Nodes_0s, isf_Nodes_0i, isf_Nodes_0l, isf_Nodes_0t, isf_Nodes_0n, isf_Nodes_0b, isf_Program_Nodes, isf_Program_Program, isf_Program_0s, isf_Program_0i, isf_Program_0l, isf_Program_0t, isf_Program_0n, isf_Program_0b, $ts,*])
open Lean in
local macro_rules | `(tactic| push_cast) => `(tactic| simp only [↓DL.r0, ↓DL.r1, ↓DL.r2, ↓DL.r3, ↓DL.r4, ↓DL.r5, ↓DL.r6, ↓DL.r7, ↓DL.r8, ↓DL.r9, ↓DL.r10, ↓DL.r11, ↓DL.r12, ↓DL.r13, ↓DL.r14, ↓DL.r15, ↓DL.r16, ↓DL.r17, ↓DL.r18, ↓DL.r19, ↓DL.r20, ↓DL.r21, ↓DL.r22, ↓DL.r23, ↓DL.r24, ↓DL.r25, ↓DL.r26, ↓DL.r27, ↓DL.r28, ↓DL.r29, DL.s0, DL.s1, DL.s2, DL.s3, DL.s4, DL.s5, DL.s6, DL.s7, DL.s8, DL.s9, DL.s10, DL.s11, DL.s12, DL.s13, DL.s14, DL.s15, DL.s16, DL.s17, DL.s18, DL.s19, DL.s20, DL.s21, DL.s22, DL.s23, DL.s24, DL.s25, DL.s26, DL.s27, DL.s28, DL.s29, DL.startD_cons, DL.startD_nil, DL.startD_zero, ↓DL.w_ok, ↓DL.w_some, ↓DL.w_somec, ↓DL.w_bind, ↓DL.w_opt, ↓DL.w_chg, ↓DL.w_kon, ↓DL.w_calm, ↓DL.w_b2, ↓DL.w_b2L, ↓DL.w_b1, ↓DL.wB_bl, ↓DL.w_asB, ↓DL.w_b2T, ↓DL.w_chE, ↓DL.w_chT, ↓DL.w_not, ↓DL.w_val, ↓DL.w_notE, ↓DL.w_ifE, ↓DL.w_ifL, ↓DL.w_andM, ↓DL.w_orM, ↓DL.w_andE, ↓DL.w_orE, ↓DL.w_nil, ↓DL.w_cons, ↓DL.w_tup, ↓DL.w_lst, ↓DL.w_frz, ↓DL.w_new, ↓DL.w_cel, ↓DL.w_cb, ↓DL.w_cbL, ↓DL.w_call, ↓DL.w_callL, ↓DL.w_ar0, ↓DL.w_ar1, ↓DL.w_ar2, ↓DL.w_ar3, ↓DL.w_ar4, ↓DL.w_ar5, ↓DL.w_ar6, ↓DL.w_noO, ↓DL.w_smO, ↓DL.w_sl, ↓DL.w_slL, ↓DL.w_rev, ↓DL.w_step, ↓DL.w_isi, ↓DL.w_sets, ↓DL.w_lrg, ↓DL.w_mth, ↓DL.w_mth0, ↓DL.w_itS, ↓DL.w_itR1, ↓DL.w_itR2, ↓DL.w_itR3, ↓DL.w_itZ, ↓DL.w_itN, ↓DL.w_lc, ↓DL.w_nx, ↓DL.w_rt, ↓DL.w_seq, ↓DL.w_set, ↓DL.wPar_2, ↓DL.w_par, ↓DL.w_aug, ↓DL.w_sto, ↓DL.w_exp, ↓DL.w_ret, ↓DL.w_retN, ↓DL.w_nxS, ↓DL.w_ifS, ↓DL.w_for, ↓DL.w_asg, ↓DL.w_stk, ↓DL.w_body, ↓DL.w_bodyL, ↓DL.wret_non, ↓DL.wret_bl, ↓DL.wret_int, ↓DL.wret_str, ↓DL.wif_t, ↓DL.wif_f, ↓DL.wif_d, ↓DL.wif_n, ↓DL.wif_a, ↓DL.wif_o, DL.few0, DL.few1, DL.few2, DL.few3, DL.few4, DL.few5, DL.few6, DL.few7, DL.few8, DL.few9, DL.few10, true_and, and_true, ↓DL.a_nm, ↓DL.a_tp1, ↓DL.a_tp2, ↓DL.a_tp3, ↓DL.a_tp4, ↓DL.a_tp5, ↓DL.a_tpn, ↓DL.a_tpm, ↓DL.a_encP, DL.wipe_nil, DL.wipe_cons, DL.o_add, DL.o_sub, DL.o_neg, ↓DL.o_mul, ↓DL.o_div, ↓DL.o_mod, DL.o_pow, ↓DL.o_p10_3, ↓DL.o_p10_4, ↓DL.o_p10_6, ↓DL.o_p10_8, ↓DL.o_p10_9, ↓DL.o_p10_12, ↓DL.o_p10_15, ↓DL.o_p10_18, ↓DL.o_p10_20, ↓DL.o_p10_25, ↓DL.o_p10_26, ↓DL.o_p10_27, ↓DL.o_p10_28, ↓DL.o_p10_29, ↓DL.o_p10_30, ↓DL.o_p10_31, ↓DL.o_p10_36, ↓DL.o_p10_38, ↓DL.o_p10_40, ↓DL.o_p10_42, ↓DL.o_p10_44, ↓DL.o_p10_46, ↓DL.o_p10_48, ↓DL.o_p10_50, ↓DL.o_p10_60, ↓DL.o_p10_64, ↓DL.o_p10_70, ↓DL.o_p10_90, ↓DL.o_p10_99, ↓DL.o_p10_100, ↓DL.o_addS, ↓DL.o_addT, ↓DL.o_catL, ↓DL.o_addL, DL.o_lt, DL.o_le, DL.o_gt, DL.o_ge, DL.o_eqI, DL.o_neI, DL.o_eqS, DL.o_neS, DL.o_is, DL.o_isn, DL.n_non, DL.n_bl, DL.n_int, DL.n_str, DL.n_lst, DL.n_tup, DL.n_ref, DL.n_obj, DL.i_non_int, DL.i_non_bool, DL.i_non_str, DL.i_non_list, DL.i_non_tuple, DL.i_bl_int, DL.i_bl_bool, DL.i_bl_str, DL.i_bl_list, DL.i_bl_tuple, DL.i_int_int, DL.i_int_bool, DL.i_int_str, DL.i_int_list, DL.i_int_tuple, DL.i_str_int, DL.i_str_bool, DL.i_str_str, DL.i_str_list, DL.i_str_tuple, DL.i_lst_int, DL.i_lst_bool, DL.i_lst_str, DL.i_lst_list, DL.i_lst_tuple, DL.i_tup_int, DL.i_tup_bool, DL.i_tup_str, DL.i_tup_list, DL.i_tup_tuple, DL.t_non, DL.t_bl, DL.t_int, DL.t_lst, DL.t_tup, ↓DL.x_lst, ↓DL.x_tup, ↓DL.x_encP0, ↓DL.x_encP1, DL.ixn1_0, DL.ixn1_m1, DL.ixn2_0, DL.ixn2_1, DL.ixn2_m1, DL.ixn3_0, DL.ixn3_1, DL.ixn3_2, DL.ixn3_m1, DL.ixn4_0, DL.ixn4_1, DL.ixn4_2, DL.ixn4_3, DL.ixn4_m1, DL.ixn5_0, DL.ixn5_1, DL.ixn5_2, DL.ixn5_3, DL.ixn5_4, DL.ixn5_m1, DL.ixn6_0, DL.ixn6_1, DL.ixn6_2, DL.ixn6_3, DL.ixn6_4, DL.ixn6_5, DL.ixn6_m1, DL.ixn7_0, DL.ixn7_1, DL.ixn7_2, DL.ixn7_3, DL.ixn7_4, DL.ixn7_5, DL.ixn7_6, DL.ixn7_m1, DL.ixn8_0, DL.ixn8_1, DL.ixn8_2, DL.ixn8_3, DL.ixn8_4, DL.ixn8_5, DL.ixn8_6, DL.ixn8_7, DL.ixn8_m1, ↓DL.x1_0, ↓DL.x1_m1, ↓DL.x2_0, ↓DL.x2_1, ↓DL.x2_m1, ↓DL.x3_0, ↓DL.x3_1, ↓DL.x3_2, ↓DL.x3_m1, ↓DL.x4_0, ↓DL.x4_1, ↓DL.x4_2, ↓DL.x4_3, ↓DL.x4_m1, ↓DL.x5_0, ↓DL.x5_1, ↓DL.x5_2, ↓DL.x5_3, ↓DL.x5_4, ↓DL.x5_m1, ↓DL.x6_0, ↓DL.x6_1, ↓DL.x6_2, ↓DL.x6_3, ↓DL.x6_4, ↓DL.x6_5, ↓DL.x6_m1, ↓DL.x7_0, ↓DL.x7_1, ↓DL.x7_2, ↓DL.x7_3, ↓DL.x7_4, ↓DL.x7_5, ↓DL.x7_6, ↓DL.x7_m1, ↓DL.x8_0, ↓DL.x8_1, ↓DL.x8_2, ↓DL.x8_3, ↓DL.x8_4, ↓DL.x8_5, ↓DL.x8_6, ↓DL.x8_7, ↓DL.x8_m1, DL.c_abs, DL.c_max2, DL.c_min2, DL.c_int, DL.c_intb, DL.c_lenS, DL.c_lenT, DL.c_lenL, DL.c_listT, DL.c_listL, DL.c_tupT, DL.c_tupL, DL.c_sum, DL.c_sum0, DL.c_all, DL.c_any, DL.c_minP, DL.c_maxP, DL.c_sortP, DL.c_zip, DL.c_enum, DL.c_range1, DL.c_range2, DL.g_lst, DL.g_tup, DL.g_str, DL.p_int, DL.sq_lst, DL.sl_lst, DL.sl_tup, DL.sl_str, DL.slL_lst, DL.om_some, List.set_cons_zero, List.set_cons_succ, DL.m_tyL, DL.m_tyS, DL.m_ty, DL.m_app, DL.m_sto, DL.m_fzL, DL.m_fzI, DL.m_fzT, DL.m_fz, DL.x_ref, DL.c_lenR, DL.c_listR, DL.c_tupR, DL.sl_ref, DL.atL_new, DL.atL_new1, DL.atL_new2, DL.atL_old, DL.set_new, DL.set_new1, DL.set_new2, DL.set_old, DL.take_app, DL.app_app, DL.cons_app, DL.nil_app, DL.len_app1, DL.len_app2, DL.len_app3, DL.len_set, DL.seq_new, DL.seq_new1, DL.seq_new2, DL.seq_old, DL.ex_some, DL.fl_non, DL.fl_int, DL.fl_bl, DL.fl_str, DL.fl_tup, DL.fl_lst, DL.fl_obj, DL.fl_nil, DL.fl_cons, DL.fl_app, DL.fl_encP, Bool.and_self, Bool.and_true, Bool.true_and, List.set_set, ↓DL.w_yes, ↓DL.w_fld, ↓DL.w_mt, ↓DL.w_mtL, ↓DL.w_mt0, ↓DL.w_mt0L, ↓DL.w_ic, DL.isO_obj, ↓DL.w_make, ↓DL.w_b2M, ↓DL.w_b2MT, DL.c_intU, DL.c_intbU, ↓DL.w_mthL, ↓DL.w_uM, ↓DL.w_inv, ↓DL.w_bin_obj, ↓DL.w_bin_int, ↓DL.w_fldS, DL.m_fld, DL.atI_new, DL.putD, ↓DL.w_repL, ↓DL.w_isiC, ↓DL.w_par3, ↓DL.wPar3_3, DL.m_count, DL.wretL_new, DL.wret_new, ↓DL.c_setSort, DL.o_addI, DL.o_inS, DL.o_ninS, ↓DL.c_str, ↓DL.c_intSw, ↓DL.m_ext, DL.slt_l, DL.slt_t, DL.slt_r, ↓DL.c_dm, ↓DL.c_split, ↓DL.c_join, ↓DL.c_rep, ↓DL.x_str, ↓DL.o_catRL, ↓DL.o_addRL, ↓DL.wret_tup, ↓DL.wret_lst, List.take_length, List.length_cons, List.length_nil, List.length_map, Int.cast_ofNat_Int, Bool.not_true, Bool.not_false, Int.reduceAdd, Int.reduceSub, Int.reduceMul, Int.reduceNeg, Int.reduceEq, Int.reduceLT, Int.reduceLE, Nat.reduceAdd, Nat.reduceSub, eq_self, not_true_eq_false, not_false_eq_true, false_implies, implies_true, true_implies, ff_Nodes_held, ff_Program_own_nodes, fm_Program_accesses, isf_Nodes_Nodes, isf_Nodes_Program, isf_Nodes_0s, isf_Nodes_0i, isf_Nodes_0l, isf_Nodes_0t, isf_Nodes_0n, isf_Nodes_0b, isf_Program_Nodes, isf_Program_Program, isf_Program_0s, isf_Program_0i, isf_Program_0l, isf_Program_0t, isf_Program_0n, isf_Program_0b])
/-! draws, nodes of a law -/
open MT MN
def Ket (S : Cells) (n k : Nat) : Prop := ∃ a b c : Int, S[n]? = some ⟨true, .lst [.int a, .int b, .int c]⟩ ∧ 0 ≤ b ∧ b < 10 ^ 60 ∧ 0 ≤ c ∧ c ≤ k
theorem Ket.lt {S : Cells} {n k : Nat} (h : Ket S n k) : n < S.length := by
  obtain ⟨a, b, c, h, _⟩ := h
  exact (List.getElem?_eq_some_iff.mp h).1
theorem Ket.mono {S : Cells} {n k j : Nat} (h : Ket S n k) (hk : k ≤ j) : Ket S n j := by
  obtain ⟨a, b, c, h, h1, h2, h3, h4⟩ := h
  exact ⟨a, b, c, h, h1, h2, h3, by omega⟩
/-- but for the kettle all is as before -/
structure Fr (S S' : Cells) (n : Nat) : Prop where
  len : S'.length = S.length
  oth : ∀ j, j ≠ n → S'[j]? = S[j]?
theorem Fr.refl (S : Cells) (n : Nat) : Fr S S n := ⟨rfl, fun _ _ => rfl⟩
theorem Fr.trans {S S1 S2 : Cells} {n : Nat} (a : Fr S S1 n) (b : Fr S1 S2 n) : Fr S S2 n := ⟨b.len.trans a.len, fun j h => (b.oth j h).trans (a.oth j h)⟩
theorem Fr.set {S : Cells} {n : Nat} {c : Cell} : Fr S (S.set n c) n := ⟨List.length_set, fun j h => List.getElem?_set_ne (Ne.symm h)⟩
theorem big_of {i : Int} (h : 0 ≤ i) (h2 : i < 10 ^ 100) : Big i := ⟨h, by omega⟩
theorem pow_ok {i : Int} (h : 0 ≤ i) (h2 : i < 10 ^ 100) : okPow i 3 := by
  refine ⟨by decide, ?_⟩
  unfold Builtin.Int.intBits
  have := PySem.Flt.log2_lt_of (by decide) (lt_pow (b := 400) h h2 (by decide))
  split <;> omega
theorem div_ok {m : Int} (hm : 0 < m) (hm2 : m < 10 ^ 100) : okDiv m := ⟨hm, by have := PySem.Flt.log2_lt_of (by decide) (lt_pow (b := 400) (by omega) hm2 (by decide)); omega⟩
section
variable {S R : Cells} {E : Xc → Cells → Prop} {Q : D → Cells → Prop} {QL : List D → Cells → Prop}
theorem kettle_wp {ns : List Int} {i : Int} (hi : 0 ≤ i) (hi2 : i < 1000) (q : ∀ a b : Int, 0 ≤ b → b < 10 ^ 60 → QL [.int a, .int b, .int 0] S) : wp (g__law_kettle [.lst (ns.map .int), .int i] S) QL E := by
  have em : okMul 80021 i = true := big_mul (big_of (by decide) (by decide)) (big_of hi (by omega))
  push_cast [g__law_kettle, B__law_kettle, em]
  refine ⟨fun h => ?_, fun h => ⟨big_mul (big_of (by decide) (by decide)) (big_of (by decide) (by decide)), q _ _ (by omega) (by omega)⟩⟩
  have hg : ns[i.toNat]? = some (ns.getD i.toNat 0) := by rw [List.getD_eq_getElem?_getD, List.getElem?_eq_getElem (by omega)]; rfl
  generalize ns.getD i.toNat 0 = a at hg
  have b1 := Int.emod_nonneg a (b := 100000000000000000000000000000000000133) (by decide)
  have b2 := Int.emod_lt_of_pos a (b := 100000000000000000000000000000000000133) (by decide)
  push_cast [wAt_map (enc := D.int) (k := i) (n := i.toNat) (by omega) hg, em]
  exact ⟨big_mul (big_of b1 (by omega)) (big_of (by decide) (by decide)), q _ _ (by omega) (by omega)⟩
theorem scoop_wp {n k : Nat} {m : Int} (h : Ket S n k) (hk : k ≤ 10 ^ 40) (hm : 0 < m) (hm2 : m < 10 ^ 60) (q : ∀ v S', 0 ≤ v → v < m → Ket S' n (k + 1) → Fr S S' n → Q (.int v) (S' ++ R)) : wp (g__law_scoop [.ref n, .int m] (S ++ R)) Q E := by
  have hn := h.lt
  obtain ⟨a, b, c, h, h1, h2, h3, h4⟩ := h
  have hs : ∀ {c : Cell}, (S.set n c)[n]? = some c := fun {c} => by rw [List.getElem?_set_self hn]
  have tk : ∀ {c : Cell}, ((S.set n c) ++ R).take (S ++ R).length = (S.set n c) ++ R := fun {c} => List.take_of_length_le (by simp)
  push_cast [g__law_scoop, B__law_scoop, seq_at h, seq_at hs, atL_of h, atL_of hs, hn, tk, hm, div_ok hm (show m < 10 ^ 100 by omega), div_ok (m := 524287) (by decide) (by decide)]
  refine ⟨fun ha => ?_, fun ha => ?_⟩
  · exact q _ _ (Int.emod_nonneg _ (by omega)) (Int.emod_lt_of_pos _ hm) ⟨a / m, b, c, hs, h1, h2, h3, by omega⟩ Fr.set
  have b1 := Int.emod_nonneg ((b + 49979687 * (c + 1)) ^ Int.toNat 3) (b := 100000000000000000000000000000000000000000031) (by decide)
  have b2 := Int.emod_lt_of_pos ((b + 49979687 * (c + 1)) ^ Int.toNat 3) (b := 100000000000000000000000000000000000000000031) (by decide)
  refine ⟨big_mul (big_of (by decide) (by decide)) (big_of (by omega) (by omega)), pow_ok (by omega) (by omega), big_mul (big_of (by decide) (by decide)) (big_of (by omega) (by omega)), pow_ok (by omega) (by omega), ?_⟩
  exact q _ _ (Int.emod_nonneg _ (by omega)) (Int.emod_lt_of_pos _ hm) ⟨a, b, c + 1, hs, h1, h2, by omega, by omega⟩ Fr.set
theorem scoop_wp0 {n k : Nat} {m : Int} (h : Ket S n k) (hk : k ≤ 10 ^ 40) (hm : 0 < m) (hm2 : m < 10 ^ 60) (q : ∀ v S', 0 ≤ v → v < m → Ket S' n (k + 1) → Fr S S' n → Q (.int v) S') : wp (g__law_scoop [.ref n, .int m] S) Q E := by
  have := scoop_wp (R := []) (E := E) (Q := Q) h hk hm hm2 fun v S' a b c d => by rw [List.append_nil]; exact q v S' a b c d
  rwa [List.append_nil] at this
end
theorem Ket.old {S X : Cells} {n k : Nat} (h : Ket (S ++ X) n k) (hn : n < S.length) : Ket S n k := by
  obtain ⟨a, b, c, h, r⟩ := h
  rw [List.getElem?_append_left hn] at h
  exact ⟨a, b, c, h, r⟩
theorem Ket.new {S X : Cells} {n k : Nat} (h : Ket S n k) : Ket (S ++ X) n k := by
  have hn := h.lt
  obtain ⟨a, b, c, h, r⟩ := h
  exact ⟨a, b, c, by rw [List.getElem?_append_left hn]; exact h, r⟩
theorem Fr.cut {S S' X : Cells} {n : Nat} (f : Fr (S ++ X) S' n) (hn : n < S.length) : ∃ S2, S' = S2 ++ X ∧ Fr S S2 n := by
  have hl := f.len
  rw [List.length_append] at hl
  refine ⟨S'.take S.length, ?_, ⟨by rw [List.length_take]; omega, fun j hj => ?_⟩⟩
  · refine List.ext_getElem? fun j => ?_
    by_cases hj : j < S.length
    · rw [List.getElem?_append_left (by rw [List.length_take]; omega), List.getElem?_take, if_pos hj]
    · rw [f.oth j (by omega), List.getElem?_append_right (by omega), List.getElem?_append_right (by rw [List.length_take]; omega)]
      congr 1
      rw [List.length_take]
      omega
  · rw [List.getElem?_take]
    by_cases hj2 : j < S.length
    · rw [if_pos hj2, f.oth j hj, List.getElem?_append_left hj2]
    · rw [if_neg hj2, List.getElem?_eq_none (by omega)]
section
variable {S : Cells} {E : Xc → Cells → Prop} {Q : D → Cells → Prop} {QL : List D → Cells → Prop}
theorem encP_pair {p : Int × Int} : D.tup [.int p.1, .int p.2] = DL.encP p := rfl
theorem law_scans_step {w h : Int} (n : Nat) (ih : ∀ l, dps l < n → oks w h l → (scss l).length ≤ 10000 → ∀ S, g__law_scans n [.lst (l.map eL)] S = .ok (.lst ((scss l).map DL.encP)) S)
    (l : List Nd) (hl : dps l ≤ n) (hk : oks w h l) (hb : (scss l).length ≤ 10000) (S : Cells) : g__law_scans (n + 1) [.lst (l.map eL)] S = .ok (.lst ((scss l).map DL.encP)) S := by
  have zz := z24
  refine wp_ok ?_
  rw [show g__law_scans (n + 1) = bodyD 3 (B__law_scans (g__law_scans n)) from rfl]
  push_cast [B__law_scans]
  refine for_st (σ := List Nd × Option D) eL (fun σ => [some (.lst (l.map eL)), some (.lst ((scss σ.1).map DL.encP)), σ.2]) (fun _ => S) (fun σ r => l = σ.1 ++ r) l ([], none) rfl ?_ ?_ (by rw [scss]; rfl) rfl
  · rintro ⟨l1, x2⟩ m r e
    simp only at e
    have hm : m ∈ l := by rw [e]; simp
    have ho := ok_mem hk hm
    have hdm := dp_mem hm
    have hl1 : (scss l).length = (scss l1).length + ((scs m).length + (scss r).length) := by rw [e, scss_app, scss, List.length_append, List.length_append]
    cases m with
    | sc a b =>
      rw [scs] at hl1
      simp only [List.length_singleton] at hl1
      push_cast [L1__law_scans, eL_sc, s_sa, cut_1, List.drop_succ_cons, List.drop_zero]
      refine ⟨by omega, (l1 ++ [.sc a b], some (eL (.sc a b))), ?_, by rw [e, List.append_assoc]; rfl⟩
      simp only [eL_sc]
      rw [scss_app, scss_one, scs, List.map_append]
      rfl
    | rp l2 t =>
      rw [dp] at hdm
      rw [ok] at ho
      rw [scs] at hl1
      push_cast [L1__law_scans, eL_rp, ih l2 (by omega) ho.2.2 (by omega)]
      refine ⟨by omega, (l1 ++ [.rp l2 t], some (eL (.rp l2 t))), ?_, by rw [e, List.append_assoc]; rfl⟩
      simp only [eL_rp]
      rw [scss_app, scss_one, scs, List.map_append]
  · rintro ⟨l1, x2⟩ e
    simp only [List.append_nil] at e
    subst e
    push_cast [fl_map (f := DL.encP) (l := scss l) fun _ _ => fl_encP]
theorem law_scans_ok {w h : Int} : ∀ n l, dps l < n → oks w h l → (scss l).length ≤ 10000 → ∀ S, g__law_scans n [.lst (l.map eL)] S = .ok (.lst ((scss l).map DL.encP)) S := by
  intro n
  induction n with
  | zero => intro l hl; omega
  | succ n ih => intro l hl hk hb S; exact law_scans_step n ih l (by omega) hk hb S
theorem law_len_step {w h : Int} (hh : h < 10 ^ 100) (n : Nat) (ih : ∀ l, dps l < n → oks w h l → lens l < 10 ^ 400 → ∀ S, g__law_length n [.lst (l.map eL)] S = .ok (.int (lens l)) S)
    (l : List Nd) (hl : dps l ≤ n) (hk : oks w h l) (hb : lens l < 10 ^ 400) (S : Cells) : g__law_length (n + 1) [.lst (l.map eL)] S = .ok (.int (lens l)) S := by
  refine wp_ok ?_
  rw [show g__law_length (n + 1) = bodyD 3 (B__law_length (g__law_length n)) from rfl]
  push_cast [B__law_length]
  refine for_st (σ := List Nd × Option D) eL (fun σ => [some (.lst (l.map eL)), some (.int (lens σ.1)), σ.2]) (fun _ => S) (fun σ r => l = σ.1 ++ r) l ([], none) rfl ?_ ?_ (by simp [lens]) rfl
  · rintro ⟨l1, x2⟩ m r e
    simp only at e
    have hm : m ∈ l := by rw [e]; simp
    have ho := ok_mem hk hm
    have hdm := dp_mem hm
    have hlm := len_mem hk hm
    cases m with
    | sc a b =>
      push_cast [L1__law_length, eL_sc, s_sa]
      exact ⟨(l1 ++ [.sc a b], some (eL (.sc a b))), by simp only [lens_app, lens_one, len, eL_sc, sz, Int.add_assoc], by rw [e, List.append_assoc]; rfl⟩
    | rp l2 t =>
      rw [dp] at hdm
      have hle := len_rp_le ho
      rw [ok] at ho
      push_cast [L1__law_length, eL_rp, ih l2 (by omega) ho.2.2 (by omega)]
      exact ⟨big_mul ⟨lens_pos ho.2.2, by omega⟩ ⟨by omega, by omega⟩, (l1 ++ [.rp l2 t], some (eL (.rp l2 t))), by simp only [lens_app, lens_one, len, eL_rp], by rw [e, List.append_assoc]; rfl⟩
  · rintro ⟨l1, x2⟩ e
    simp only [List.append_nil] at e
    subst e
    push_cast
theorem law_len_ok {w h : Int} (hh : h < 10 ^ 100) : ∀ n l, dps l < n → oks w h l → lens l < 10 ^ 400 → ∀ S, g__law_length n [.lst (l.map eL)] S = .ok (.int (lens l)) S := by
  intro n
  induction n with
  | zero => intro l hl; omega
  | succ n ih => intro l hl hk hb S; exact law_len_step hh n ih l (by omega) hk hb S
end

end K26
end
section
set_option maxHeartbeats 4000000
set_option exponentiation.threshold 3000
namespace K26
open PySem PySem.Spec L2 DL
open PyProof.Rows hiding St
open Lean in
local macro_rules | `(tactic| push_cast [$ts,*]) => `(tactic| simp only [↓DL.r0, ↓DL.r1, ↓DL.r2, ↓DL.r3, ↓DL.r4, ↓DL.r5, ↓DL.r6, ↓DL.r7, ↓DL.r8, ↓DL.r9, ↓DL.r10, ↓DL.r11, ↓DL.r12, ↓DL.r13, ↓DL.r14, ↓DL.r15, ↓DL.r16, ↓DL.r17, ↓DL.r18, ↓DL.r19, ↓DL.r20, ↓DL.r21, ↓DL.r22, ↓DL.r23, ↓DL.r24, ↓DL.r25, ↓DL.r26, ↓DL.r27, ↓DL.r28, ↓DL.r29, DL.s0, DL.s1, DL.s2, DL.s3, DL.s4, DL.s5, DL.s6, DL.s7, DL.s8, DL.s9, DL.s10, DL.s11, DL.s12, DL.s13, DL.s14, DL.s15, DL.s16, DL.s17, DL.s18, DL.s19, DL.s20, DL.s21, DL.s22, DL.s23, DL.s24, DL.s25, DL.s26, DL.s27, DL.s28, DL.s29, DL.startD_cons, DL.startD_nil, DL.startD_zero, ↓DL.w_ok, ↓DL.w_some, ↓DL.w_somec, ↓DL.w_bind, ↓DL.w_opt, ↓DL.w_chg, ↓DL.w_kon, ↓DL.w_calm, ↓DL.w_b2, ↓DL.w_b2L, ↓DL.w_b1, ↓DL.wB_bl, ↓DL.w_asB, ↓DL.w_b2T, ↓DL.w_chE, ↓DL.w_chT, ↓DL.w_not, ↓DL.w_val, ↓DL.w_notE, ↓DL.w_ifE, ↓DL.w_ifL, ↓DL.w_andM, ↓DL.w_orM, ↓DL.w_andE, ↓DL.w_orE, ↓DL.w_nil, ↓DL.w_cons, ↓DL.w_tup, ↓DL.w_lst, ↓DL.w_frz, ↓DL.w_new, ↓DL.w_cel, ↓DL.w_cb, ↓DL.w_cbL, ↓DL.w_call, ↓DL.w_callL, ↓DL.w_ar0, ↓DL.w_ar1, ↓DL.w_ar2, ↓DL.w_ar3, ↓DL.w_ar4, ↓DL.w_ar5, ↓DL.w_ar6, ↓DL.w_noO, ↓DL.w_smO, ↓DL.w_sl, ↓DL.w_slL, ↓DL.w_rev, ↓DL.w_step, ↓DL.w_isi, ↓DL.w_sets, ↓DL.w_lrg, ↓DL.w_mth, ↓DL.w_mth0, ↓DL.w_itS, ↓DL.w_itR1, ↓DL.w_itR2, ↓DL.w_itR3, ↓DL.w_itZ, ↓DL.w_itN, ↓DL.w_lc, ↓DL.w_nx, ↓DL.w_rt, ↓DL.w_seq, ↓DL.w_set, ↓DL.wPar_2, ↓DL.w_par, ↓DL.w_aug, ↓DL.w_sto, ↓DL.w_exp, ↓DL.w_ret, ↓DL.w_retN, ↓DL.w_nxS, ↓DL.w_ifS, ↓DL.w_for, ↓DL.w_asg, ↓DL.w_stk, ↓DL.w_body, ↓DL.w_bodyL, ↓DL.wret_non, ↓DL.wret_bl, ↓DL.wret_int, ↓DL.wret_str, ↓DL.wif_t, ↓DL.wif_f, ↓DL.wif_d, ↓DL.wif_n, ↓DL.wif_a, ↓DL.wif_o, DL.few0, DL.few1, DL.few2, DL.few3, DL.few4, DL.few5, DL.few6, DL.few7, DL.few8, DL.few9, DL.few10, true_and, and_true, ↓DL.a_nm, ↓DL.a_tp1, ↓DL.a_tp2, ↓DL.a_tp3, ↓DL.a_tp4, ↓DL.a_tp5, ↓DL.a_tpn, ↓DL.a_tpm, ↓DL.a_encP, DL.wipe_nil, DL.wipe_cons, DL.o_add, DL.o_sub, DL.o_neg, ↓DL.o_mul, ↓DL.o_div, ↓DL.o_mod, DL.o_pow, ↓DL.o_p10_3, ↓DL.o_p10_4, ↓DL.o_p10_6, ↓DL.o_p10_8, ↓DL.o_p10_9, ↓DL.o_p10_12, ↓DL.o_p10_15, ↓DL.o_p10_18, ↓DL.o_p10_20, ↓DL.o_p10_25, ↓DL.o_p10_26, ↓DL.o_p10_27, ↓DL.o_p10_28, ↓DL.o_p10_29, ↓DL.o_p10_30, ↓DL.o_p10_31, ↓DL.o_p10_36, ↓DL.o_p10_38, ↓DL.o_p10_40, ↓DL.o_p10_42, ↓DL.o_p10_44, ↓DL.o_p10_46, ↓DL.o_p10_48, ↓DL.o_p10_50, ↓DL.o_p10_60, ↓DL.o_p10_64, ↓DL.o_p10_70, ↓DL.o_p10_90, ↓DL.o_p10_99, ↓DL.o_p10_100, ↓DL.o_addS, ↓DL.o_addT, ↓DL.o_catL, ↓DL.o_addL, DL.o_lt, DL.o_le, DL.o_gt, DL.o_ge, DL.o_eqI, DL.o_neI, DL.o_eqS, DL.o_neS, DL.o_is, DL.o_isn, DL.n_non, DL.n_bl, DL.n_int, DL.n_str, DL.n_lst, DL.n_tup, DL.n_ref, DL.n_obj, DL.i_non_int, DL.i_non_bool, DL.i_non_str, DL.i_non_list, DL.i_non_tuple, DL.i_bl_int, DL.i_bl_bool, DL.i_bl_str, DL.i_bl_list, DL.i_bl_tuple, DL.i_int_int, DL.i_int_bool, DL.i_int_str, DL.i_int_list, DL.i_int_tuple, DL.i_str_int, DL.i_str_bool, DL.i_str_str, DL.i_str_list, DL.i_str_tuple, DL.i_lst_int, DL.i_lst_bool, DL.i_lst_str, DL.i_lst_list, DL.i_lst_tuple, DL.i_tup_int, DL.i_tup_bool, DL.i_tup_str, DL.i_tup_list, DL.i_tup_tuple, DL.t_non, DL.t_bl, DL.t_int, DL.t_lst, DL.t_tup, ↓DL.x_lst, ↓DL.x_tup, ↓DL.x_encP0, ↓DL.x_encP1, DL.ixn1_0, DL.ixn1_m1, DL.ixn2_0, DL.ixn2_1, DL.ixn2_m1, DL.ixn3_0, DL.ixn3_1, DL.ixn3_2, DL.ixn3_m1, DL.ixn4_0, DL.ixn4_1, DL.ixn4_2, DL.ixn4_3, DL.ixn4_m1, DL.ixn5_0, DL.ixn5_1, DL.ixn5_2, DL.ixn5_3, DL.ixn5_4, DL.ixn5_m1, DL.ixn6_0, DL.ixn6_1, DL.ixn6_2, DL.ixn6_3, DL.ixn6_4, DL.ixn6_5, DL.ixn6_m1, DL.ixn7_0, DL.ixn7_1, DL.ixn7_2, DL.ixn7_3, DL.ixn7_4, DL.ixn7_5, DL.ixn7_6, DL.ixn7_m1, DL.ixn8_0, DL.ixn8_1, DL.ixn8_2, DL.ixn8_3, DL.ixn8_4, DL.ixn8_5, DL.ixn8_6, DL.ixn8_7, DL.ixn8_m1, ↓DL.x1_0, ↓DL.x1_m1, ↓DL.x2_0, ↓DL.x2_1, ↓DL.x2_m1, ↓DL.x3_0, ↓DL.x3_1, ↓DL.x3_2, ↓DL.x3_m1, ↓DL.x4_0, ↓DL.x4_1, ↓DL.x4_2, ↓DL.x4_3, ↓DL.x4_m1, ↓DL.x5_0, ↓DL.x5_1, ↓DL.x5_2, ↓DL.x5_3, ↓DL.x5_4, ↓DL.x5_m1, ↓DL.x6_0, ↓DL.x6_1, ↓DL.x6_2, ↓DL.x6_3, ↓DL.x6_4, ↓DL.x6_5, ↓DL.x6_m1, ↓DL.x7_0, ↓DL.x7_1, ↓DL.x7_2, ↓DL.x7_3, ↓DL.x7_4, ↓DL.x7_5, ↓DL.x7_6, ↓DL.x7_m1, ↓DL.x8_0, ↓DL.x8_1, ↓DL.x8_2, ↓DL.x8_3, ↓DL.x8_4, ↓DL.x8_5, ↓DL.x8_6, ↓DL.x8_7, ↓DL.x8_m1, DL.c_abs, DL.c_max2, DL.c_min2, DL.c_int, DL.c_intb, DL.c_lenS, DL.c_lenT, DL.c_lenL, DL.c_listT, DL.c_listL, DL.c_tupT, DL.c_tupL, DL.c_sum, DL.c_sum0, DL.c_all, DL.c_any, DL.c_minP, DL.c_maxP, DL.c_sortP, DL.c_zip, DL.c_enum, DL.c_range1, DL.c_range2, DL.g_lst, DL.g_tup, DL.g_str, DL.p_int, DL.sq_lst, DL.sl_lst, DL.sl_tup, DL.sl_str, DL.slL_lst, DL.om_some, List.set_cons_zero, List.set_cons_succ, DL.m_tyL, DL.m_tyS, DL.m_ty, DL.m_app, DL.m_sto, DL.m_fzL, DL.m_fzI, DL.m_fzT, DL.m_fz, DL.x_ref, DL.c_lenR, DL.c_listR, DL.c_tupR, DL.sl_ref, DL.atL_new, DL.atL_new1, DL.atL_new2, DL.atL_old, DL.set_new, DL.set_new1, DL.set_new2, DL.set_old, DL.take_app, DL.app_app, DL.cons_app, DL.nil_app, DL.len_app1, DL.len_app2, DL.len_app3, DL.len_set, DL.seq_new, DL.seq_new1, DL.seq_new2, DL.seq_old, DL.ex_some, DL.fl_non, DL.fl_int, DL.fl_bl, DL.fl_str, DL.fl_tup, DL.fl_lst, DL.fl_obj, DL.fl_nil, DL.fl_cons, DL.fl_app, DL.fl_encP, Bool.and_self, Bool.and_true, Bool.true_and, List.set_set, ↓DL.w_yes, ↓DL.w_fld, ↓DL.w_mt, ↓DL.w_mtL, ↓DL.w_mt0, ↓DL.w_mt0L, ↓DL.w_ic, DL.isO_obj, ↓DL.w_make, ↓DL.w_b2M, ↓DL.w_b2MT, DL.c_intU, DL.c_intbU, ↓DL.w_mthL, ↓DL.w_uM, ↓DL.w_inv, ↓DL.w_bin_obj, ↓DL.w_bin_int, ↓DL.w_fldS, DL.m_fld, DL.atI_new, DL.putD, ↓DL.w_repL, ↓DL.w_isiC, ↓DL.w_par3, ↓DL.wPar3_3, DL.m_count, DL.wretL_new, DL.wret_new, ↓DL.c_setSort, DL.o_addI, DL.o_inS, DL.o_ninS, ↓DL.c_str, ↓DL.c_intSw, ↓DL.m_ext, DL.slt_l, DL.slt_t, DL.slt_r, ↓DL.c_dm, ↓DL.c_split, ↓DL.c_join, ↓DL.c_rep, ↓DL.x_str, ↓DL.o_catRL, ↓DL.o_addRL, ↓DL.wret_tup, ↓DL.wret_lst, List.take_length, List.length_cons, List.length_nil, List.length_map, Int.cast_ofNat_Int, Bool.not_true, Bool.not_false, Int.reduceAdd, Int.reduceSub, Int.reduceMul, Int.reduceNeg, Int.reduceEq, Int.reduceLT, Int.reduceLE, Nat.reduceAdd, Nat.reduceSub, eq_self, not_true_eq_false, not_false_eq_true, false_implies, implies_true, true_implies, ff_Nodes_held, ff_Program_own_nodes, fm_Program_accesses, isf_Nodes_Nodes, isf_Nodes_Program, isf_Nodes_0s, isf_Nodes_0i, isf_Nodes_0l, isf_Nodes_0t, isf_Nodes_0n, isf_Nodes_0b, isf_Program_Nodes, isf_Program_Program, isf_Program_0s, isf_Program_0i, isf_Program_0l, isf_Program_0t, isf_Program_0n, isf_Program_0b, $ts,*])
open Lean in
local macro_rules | `(tactic| push_cast) => `(tactic| simp only [↓DL.r0, ↓DL.r1, ↓DL.r2, ↓DL.r3, ↓DL.r4, ↓DL.r5, ↓DL.r6, ↓DL.r7, ↓DL.r8, ↓DL.r9, ↓DL.r10, ↓DL.r11, ↓DL.r12, ↓DL.r13, ↓DL.r14, ↓DL.r15, ↓DL.r16, ↓DL.r17, ↓DL.r18, ↓DL.r19, ↓DL.r20, ↓DL.r21, ↓DL.r22, ↓DL.r23, ↓DL.r24, ↓DL.r25, ↓DL.r26, ↓DL.r27, ↓DL.r28, ↓DL.r29, DL.s0, DL.s1, DL.s2, DL.s3, DL.s4, DL.s5, DL.s6, DL.s7, DL.s8, DL.s9, DL.s10, DL.s11, DL.s12, DL.s13, DL.s14, DL.s15, DL.s16, DL.s17, DL.s18, DL.s19, DL.s20, DL.s21, DL.s22, DL.s23, DL.s24, DL.s25, DL.s26, DL.s27, DL.s28, DL.s29, DL.startD_cons, DL.startD_nil, DL.startD_zero, ↓DL.w_ok, ↓DL.w_some, ↓DL.w_somec, ↓DL.w_bind, ↓DL.w_opt, ↓DL.w_chg, ↓DL.w_kon, ↓DL.w_calm, ↓DL.w_b2, ↓DL.w_b2L, ↓DL.w_b1, ↓DL.wB_bl, ↓DL.w_asB, ↓DL.w_b2T, ↓DL.w_chE, ↓DL.w_chT, ↓DL.w_not, ↓DL.w_val, ↓DL.w_notE, ↓DL.w_ifE, ↓DL.w_ifL, ↓DL.w_andM, ↓DL.w_orM, ↓DL.w_andE, ↓DL.w_orE, ↓DL.w_nil, ↓DL.w_cons, ↓DL.w_tup, ↓DL.w_lst, ↓DL.w_frz, ↓DL.w_new, ↓DL.w_cel, ↓DL.w_cb, ↓DL.w_cbL, ↓DL.w_call, ↓DL.w_callL, ↓DL.w_ar0, ↓DL.w_ar1, ↓DL.w_ar2, ↓DL.w_ar3, ↓DL.w_ar4, ↓DL.w_ar5, ↓DL.w_ar6, ↓DL.w_noO, ↓DL.w_smO, ↓DL.w_sl, ↓DL.w_slL, ↓DL.w_rev, ↓DL.w_step, ↓DL.w_isi, ↓DL.w_sets, ↓DL.w_lrg, ↓DL.w_mth, ↓DL.w_mth0, ↓DL.w_itS, ↓DL.w_itR1, ↓DL.w_itR2, ↓DL.w_itR3, ↓DL.w_itZ, ↓DL.w_itN, ↓DL.w_lc, ↓DL.w_nx, ↓DL.w_rt, ↓DL.w_seq, ↓DL.w_set, ↓DL.wPar_2, ↓DL.w_par, ↓DL.w_aug, ↓DL.w_sto, ↓DL.w_exp, ↓DL.w_ret, ↓DL.w_retN, ↓DL.w_nxS, ↓DL.w_ifS, ↓DL.w_for, ↓DL.w_asg, ↓DL.w_stk, ↓DL.w_body, ↓DL.w_bodyL, ↓DL.wret_non, ↓DL.wret_bl, ↓DL.wret_int, ↓DL.wret_str, ↓DL.wif_t, ↓DL.wif_f, ↓DL.wif_d, ↓DL.wif_n, ↓DL.wif_a, ↓DL.wif_o, DL.few0, DL.few1, DL.few2, DL.few3, DL.few4, DL.few5, DL.few6, DL.few7, DL.few8, DL.few9, DL.few10, true_and, and_true, ↓DL.a_nm, ↓DL.a_tp1, ↓DL.a_tp2, ↓DL.a_tp3, ↓DL.a_tp4, ↓DL.a_tp5, ↓DL.a_tpn, ↓DL.a_tpm, ↓DL.a_encP, DL.wipe_nil, DL.wipe_cons, DL.o_add, DL.o_sub, DL.o_neg, ↓DL.o_mul, ↓DL.o_div, ↓DL.o_mod, DL.o_pow, ↓DL.o_p10_3, ↓DL.o_p10_4, ↓DL.o_p10_6, ↓DL.o_p10_8, ↓DL.o_p10_9, ↓DL.o_p10_12, ↓DL.o_p10_15, ↓DL.o_p10_18, ↓DL.o_p10_20, ↓DL.o_p10_25, ↓DL.o_p10_26, ↓DL.o_p10_27, ↓DL.o_p10_28, ↓DL.o_p10_29, ↓DL.o_p10_30, ↓DL.o_p10_31, ↓DL.o_p10_36, ↓DL.o_p10_38, ↓DL.o_p10_40, ↓DL.o_p10_42, ↓DL.o_p10_44, ↓DL.o_p10_46, ↓DL.o_p10_48, ↓DL.o_p10_50, ↓DL.o_p10_60, ↓DL.o_p10_64, ↓DL.o_p10_70, ↓DL.o_p10_90, ↓DL.o_p10_99, ↓DL.o_p10_100, ↓DL.o_addS, ↓DL.o_addT, ↓DL.o_catL, ↓DL.o_addL, DL.o_lt, DL.o_le, DL.o_gt, DL.o_ge, DL.o_eqI, DL.o_neI, DL.o_eqS, DL.o_neS, DL.o_is, DL.o_isn, DL.n_non, DL.n_bl, DL.n_int, DL.n_str, DL.n_lst, DL.n_tup, DL.n_ref, DL.n_obj, DL.i_non_int, DL.i_non_bool, DL.i_non_str, DL.i_non_list, DL.i_non_tuple, DL.i_bl_int, DL.i_bl_bool, DL.i_bl_str, DL.i_bl_list, DL.i_bl_tuple, DL.i_int_int, DL.i_int_bool, DL.i_int_str, DL.i_int_list, DL.i_int_tuple, DL.i_str_int, DL.i_str_bool, DL.i_str_str, DL.i_str_list, DL.i_str_tuple, DL.i_lst_int, DL.i_lst_bool, DL.i_lst_str, DL.i_lst_list, DL.i_lst_tuple, DL.i_tup_int, DL.i_tup_bool, DL.i_tup_str, DL.i_tup_list, DL.i_tup_tuple, DL.t_non, DL.t_bl, DL.t_int, DL.t_lst, DL.t_tup, ↓DL.x_lst, ↓DL.x_tup, ↓DL.x_encP0, ↓DL.x_encP1, DL.ixn1_0, DL.ixn1_m1, DL.ixn2_0, DL.ixn2_1, DL.ixn2_m1, DL.ixn3_0, DL.ixn3_1, DL.ixn3_2, DL.ixn3_m1, DL.ixn4_0, DL.ixn4_1, DL.ixn4_2, DL.ixn4_3, DL.ixn4_m1, DL.ixn5_0, DL.ixn5_1, DL.ixn5_2, DL.ixn5_3, DL.ixn5_4, DL.ixn5_m1, DL.ixn6_0, DL.ixn6_1, DL.ixn6_2, DL.ixn6_3, DL.ixn6_4, DL.ixn6_5, DL.ixn6_m1, DL.ixn7_0, DL.ixn7_1, DL.ixn7_2, DL.ixn7_3, DL.ixn7_4, DL.ixn7_5, DL.ixn7_6, DL.ixn7_m1, DL.ixn8_0, DL.ixn8_1, DL.ixn8_2, DL.ixn8_3, DL.ixn8_4, DL.ixn8_5, DL.ixn8_6, DL.ixn8_7, DL.ixn8_m1, ↓DL.x1_0, ↓DL.x1_m1, ↓DL.x2_0, ↓DL.x2_1, ↓DL.x2_m1, ↓DL.x3_0, ↓DL.x3_1, ↓DL.x3_2, ↓DL.x3_m1, ↓DL.x4_0, ↓DL.x4_1, ↓DL.x4_2, ↓DL.x4_3, ↓DL.x4_m1, ↓DL.x5_0, ↓DL.x5_1, ↓DL.x5_2, ↓DL.x5_3, ↓DL.x5_4, ↓DL.x5_m1, ↓DL.x6_0, ↓DL.x6_1, ↓DL.x6_2, ↓DL.x6_3, ↓DL.x6_4, ↓DL.x6_5, ↓DL.x6_m1, ↓DL.x7_0, ↓DL.x7_1, ↓DL.x7_2, ↓DL.x7_3, ↓DL.x7_4, ↓DL.x7_5, ↓DL.x7_6, ↓DL.x7_m1, ↓DL.x8_0, ↓DL.x8_1, ↓DL.x8_2, ↓DL.x8_3, ↓DL.x8_4, ↓DL.x8_5, ↓DL.x8_6, ↓DL.x8_7, ↓DL.x8_m1, DL.c_abs, DL.c_max2, DL.c_min2, DL.c_int, DL.c_intb, DL.c_lenS, DL.c_lenT, DL.c_lenL, DL.c_listT, DL.c_listL, DL.c_tupT, DL.c_tupL, DL.c_sum, DL.c_sum0, DL.c_all, DL.c_any, DL.c_minP, DL.c_maxP, DL.c_sortP, DL.c_zip, DL.c_enum, DL.c_range1, DL.c_range2, DL.g_lst, DL.g_tup, DL.g_str, DL.p_int, DL.sq_lst, DL.sl_lst, DL.sl_tup, DL.sl_str, DL.slL_lst, DL.om_some, List.set_cons_zero, List.set_cons_succ, DL.m_tyL, DL.m_tyS, DL.m_ty, DL.m_app, DL.m_sto, DL.m_fzL, DL.m_fzI, DL.m_fzT, DL.m_fz, DL.x_ref, DL.c_lenR, DL.c_listR, DL.c_tupR, DL.sl_ref, DL.atL_new, DL.atL_new1, DL.atL_new2, DL.atL_old, DL.set_new, DL.set_new1, DL.set_new2, DL.set_old, DL.take_app, DL.app_app, DL.cons_app, DL.nil_app, DL.len_app1, DL.len_app2, DL.len_app3, DL.len_set, DL.seq_new, DL.seq_new1, DL.seq_new2, DL.seq_old, DL.ex_some, DL.fl_non, DL.fl_int, DL.fl_bl, DL.fl_str, DL.fl_tup, DL.fl_lst, DL.fl_obj, DL.fl_nil, DL.fl_cons, DL.fl_app, DL.fl_encP, Bool.and_self, Bool.and_true, Bool.true_and, List.set_set, ↓DL.w_yes, ↓DL.w_fld, ↓DL.w_mt, ↓DL.w_mtL, ↓DL.w_mt0, ↓DL.w_mt0L, ↓DL.w_ic, DL.isO_obj, ↓DL.w_make, ↓DL.w_b2M, ↓DL.w_b2MT, DL.c_intU, DL.c_intbU, ↓DL.w_mthL, ↓DL.w_uM, ↓DL.w_inv, ↓DL.w_bin_obj, ↓DL.w_bin_int, ↓DL.w_fldS, DL.m_fld, DL.atI_new, DL.putD, ↓DL.w_repL, ↓DL.w_isiC, ↓DL.w_par3, ↓DL.wPar3_3, DL.m_count, DL.wretL_new, DL.wret_new, ↓DL.c_setSort, DL.o_addI, DL.o_inS, DL.o_ninS, ↓DL.c_str, ↓DL.c_intSw, ↓DL.m_ext, DL.slt_l, DL.slt_t, DL.slt_r, ↓DL.c_dm, ↓DL.c_split, ↓DL.c_join, ↓DL.c_rep, ↓DL.x_str, ↓DL.o_catRL, ↓DL.o_addRL, ↓DL.wret_tup, ↓DL.wret_lst, List.take_length, List.length_cons, List.length_nil, List.length_map, Int.cast_ofNat_Int, Bool.not_true, Bool.not_false, Int.reduceAdd, Int.reduceSub, Int.reduceMul, Int.reduceNeg, Int.reduceEq, Int.reduceLT, Int.reduceLE, Nat.reduceAdd, Nat.reduceSub, eq_self, not_true_eq_false, not_false_eq_true, false_implies, implies_true, true_implies, ff_Nodes_held, ff_Program_own_nodes, fm_Program_accesses, isf_Nodes_Nodes, isf_Nodes_Program, isf_Nodes_0s, isf_Nodes_0i, isf_Nodes_0l, isf_Nodes_0t, isf_Nodes_0n, isf_Nodes_0b, isf_Program_Nodes, isf_Program_Program, isf_Program_0s, isf_Program_0i, isf_Program_0l, isf_Program_0t, isf_Program_0n, isf_Program_0b])
/-! the nodes that a law draws -/
open MT MN
noncomputable def nrp (hh : List D → M D) : SM := (seqS (setS 7 fun ρ => (callE 5 hh (consM (rd ρ 0) (consM (rd ρ 6) (consM (b2 dSub (rd ρ 2) (kon (.int 1))) (consM (rd ρ 3) (consM (rd ρ 4) nilA)))))))
    (seqS (expS fun ρ => (mthE "list" mAppend (rd ρ 5) (consM (tupE (consM (kon (.str "again")) (consM (rd ρ 7) (consM (b2 dAdd (kon (.int 2)) (callE 2 g__law_scoop (consM (rd ρ 0) (consM (rd ρ 4) nilA)))) nilA)))) nilA)))
    (setS 6 fun ρ => (b2 dSub (rd ρ 6) (cbE dLen (consM (callE 1 (g__law_scans 8) (consM (rd ρ 7) nilA)) nilA))))))
noncomputable def nsc : SM := (seqS (par3S 8 9 10 fun ρ => (consM (callE 2 g__law_scoop (consM (rd ρ 0) (consM (rd ρ 3) nilA))) (consM (callE 2 g__law_scoop (consM (rd ρ 0) (consM (rd ρ 3) nilA))) (consM (callE 2 g__law_scoop (consM (rd ρ 0) (consM (kon (.int 5)) nilA))) nilA))))
    (seqS (expS fun ρ => (mthE "list" mAppend (rd ρ 5) (consM (tupE (consM (kon (.str "scan")) (consM (rd ρ 8) (consM (b2 ixD (frzE (lstE (consM (rd ρ 9) (consM (rd ρ 9) (consM (rd ρ 9) (consM (rd ρ 8) (consM (cbE dMin2 (consM (b2 dSub (rd ρ 3) (kon (.int 1))) (consM (b2 dAdd (rd ρ 8) (kon (.int 1))) nilA))) nilA))))))) (rd ρ 10)) nilA)))) nilA)))
    (setS 6 fun ρ => (b2 dSub (rd ρ 6) (kon (.int 1))))))
theorem L1_nodes (hh : List D → M D) : L1__law_nodes hh = ifS (fun ρ => (andM (b2T dGt (rd ρ 2) (kon (.int 0))) (b2T dEq (callE 2 g__law_scoop (consM (rd ρ 0) (consM (kon (.int 4)) nilA))) (kon (.int 0))))) (nrp hh) nsc := rfl
section
variable {S : Cells} {Q : D → Cells → Prop}
abbrev nenv (n : Nat) (most deep w h : Int) (f : Nat) (left : Int) (x7 x8 x9 x10 : Option D) : En := [some (.ref n), some (.int most), some (.int deep), some (.int w), some (.int h), some (.ref f), some (.int left), x7, x8, x9, x10]
theorem fl_eL {w h : Int} : ∀ n l, dps l < n → oks w h l → flatL (l.map eL) = true := by
  intro n
  induction n with
  | zero => intro l hl; omega
  | succ n ih =>
    intro l hl hk
    refine fl_map fun m hm => ?_
    have hd := dp_mem hm
    have ho := ok_mem hk hm
    cases m with
    | sc a b => rw [eL_sc]; simp [flat_tup, flatL_cons, fl_nil]
    | rp l2 t =>
      rw [dp] at hd
      rw [ok] at ho
      rw [eL_rp, flat_tup, flatL_cons, flatL_cons, flatL_cons, flat_lst, ih l2 (by omega) ho.2.2]
      simp [fl_nil]
theorem nsc_wo {n k f : Nat} {most deep w h left : Int} {x7 x8 x9 x10 : Option D} {F : List Nd} {N : En → Cells → Prop} {Rt : D → Cells → Prop} {E : Xc → En → Cells → Prop} (hf : f = S.length) (hp : Ket S n k) (hk : k ≤ 10 ^ 39) (hw : 1 ≤ w) (hw2 : w < 10 ^ 60) (hz : F.length < 100000)
    (q : ∀ S2 a b, ok w (h + 1) (.sc a b) → Ket S2 n (k + 3) → Fr S S2 n → ∀ x8 x9 x10, N (nenv n most deep w h f (left - 1) x7 x8 x9 x10) (S2 ++ [⟨true, .lst ((F ++ [Nd.sc a b]).map eL)⟩])) :
    wo (nsc (nenv n most deep w h f left x7 x8 x9 x10) (S ++ [⟨true, .lst (F.map eL)⟩])) N Rt E := by
  have zz := z24
  subst hf
  push_cast [nsc]
  refine scoop_wp hp (by omega) (by omega) (by omega) fun a S3 a0 a1 hp hf3 => ?_
  push_cast [hf3.len]
  refine scoop_wp hp (by omega) (by omega) (by omega) fun b S4 b0 b1 hp hf4 => ?_
  have hf := hf3.trans hf4
  push_cast [hf.len]
  refine scoop_wp hp (by omega) (by omega) (by omega) fun c S5 c0 c1 hp hf5 => ?_
  have hf := hf.trans hf5
  push_cast [hf.len]
  have fin : ∀ d : Int, 0 ≤ d → d < w → ∀ x8 x9 x10, N (nenv n most deep w h S.length (left - 1) x7 x8 x9 x10) (S5 ++ [⟨true, .lst (F.map eL ++ [.tup [.str "scan", .int a, .int d]])⟩]) := fun d d0 d1 x8 x9 x10 => by
    have := q S5 a d (by rw [ok]; omega) hp hf x8 x9 x10
    rw [List.map_append, List.map_cons, List.map_nil, eL_sc] at this
    exact this
  have hmin : 0 ≤ (if a + 1 < w - 1 then a + 1 else w - 1) ∧ (if a + 1 < w - 1 then a + 1 else w - 1) < w := by split <;> omega
  refine at_5 c0 c1 (fun _ => ?_) (fun _ => ?_) (fun _ => ?_) (fun _ => ?_) (fun _ => ?_)
  · push_cast [hf.len, List.length_map]
    exact ⟨by omega, fin _ b0 b1 _ _ _⟩
  · push_cast [hf.len, List.length_map]
    exact ⟨by omega, fin _ b0 b1 _ _ _⟩
  · push_cast [hf.len, List.length_map]
    exact ⟨by omega, fin _ b0 b1 _ _ _⟩
  · push_cast [hf.len, List.length_map]
    exact ⟨by omega, fin _ a0 a1 _ _ _⟩
  · push_cast [hf.len, List.length_map]
    exact ⟨by omega, fin _ hmin.1 hmin.2 _ _ _⟩
theorem nodes_step {n : Nat} (hn : n ≤ 7) {w h : Int} (hw : 1 ≤ w) (hw2 : w < 10 ^ 60) (hh : 1 ≤ h) (hh2 : h < 10 ^ 60) (c : Nat)
    (ih : ∀ (deep most : Nat) (k : Nat) (S : Cells) (Q : D → Cells → Prop) (E : Xc → Cells → Prop), deep < n → 1 ≤ most → most ≤ 1000 → Ket S c k → k + (1 + most * Gn deep most) ≤ 10 ^ 38 →
      (∀ l S', oks w (h + 1) l → l ≠ [] → dps l ≤ deep → (scss l).length ≤ most → Ket S' c (k + (1 + most * Gn deep most)) → Fr S S' c → Q (.lst (l.map eL)) S') → wp (g__law_nodes n [.ref c, .int most, .int deep, .int w, .int h] S) Q E)
    (deep most k : Nat) (S : Cells) (Q : D → Cells → Prop) (E : Xc → Cells → Prop) (hd : deep ≤ n) (hm : 1 ≤ most) (hm2 : most ≤ 1000) (hp : Ket S c k) (hk : k + (1 + most * Gn deep most) ≤ 10 ^ 38)
    (q : ∀ l S', oks w (h + 1) l → l ≠ [] → dps l ≤ deep → (scss l).length ≤ most → Ket S' c (k + (1 + most * Gn deep most)) → Fr S S' c → Q (.lst (l.map eL)) S') : wp (g__law_nodes (n + 1) [.ref c, .int most, .int deep, .int w, .int h] S) Q E := by
  have zz := z24
  rw [show g__law_nodes (n + 1) = bodyD 11 (B__law_nodes (g__law_nodes n)) from rfl]
  have hc := hp.lt
  push_cast [B__law_nodes]
  refine scoop_wp hp (by omega) (by omega) (by omega) fun v S1 v0 v1 hp hf1 => ?_
  push_cast [hf1.len]
  refine w_while (σ := Cells × List Nd × Nat × Option D × Option D × Option D × Option D) (fun σ => nenv c most deep w h S.length σ.2.2.1 σ.2.2.2.1 σ.2.2.2.2.1 σ.2.2.2.2.2.1 σ.2.2.2.2.2.2) (fun σ => σ.1 ++ [⟨true, .lst (σ.2.1.map eL)⟩])
    (fun σ => Ket σ.1 c (k + 1 + (most - σ.2.2.1) * Gn deep most) ∧ Fr S σ.1 c ∧ oks w (h + 1) σ.2.1 ∧ dps σ.2.1 ≤ deep ∧ (scss σ.2.1).length + σ.2.2.1 = (1 + v).toNat) (fun σ => σ.2.2.1)
    (S1, [], (1 + v).toNat, none, none, none, none) ⟨hp.mono (by omega), hf1, by rw [oks]; trivial, by rw [dps]; omega, by rw [scss]; simp⟩ ?_ (by rw [show (((1 + v).toNat : Nat) : Int) = 1 + v by omega]) rfl
  rintro ⟨S2, F, left, x7, x8, x9, x10⟩ ⟨hp, hf, hok, hdp, hsc⟩
  simp only at hp hf hok hdp hsc
  have hcs : c < S2.length := hp.lt
  have hF := len_le_scss hok
  have hG : (most - left) * Gn deep most + left * Gn deep most = most * Gn deep most := by rw [← Nat.add_mul]; congr 1; omega
  have hG8 := Gn_ge deep most
  have hG1 : 1 ≤ left → (most - (left - 1)) * Gn deep most = (most - left) * Gn deep most + Gn deep most := fun h1 => by
    rw [show most - (left - 1) = (most - left) + 1 by omega, Nat.add_mul, Nat.one_mul]
  have hG2 : 1 ≤ left → (most - left) * Gn deep most + Gn deep most ≤ most * Gn deep most := fun h1 => by
    rw [← hG1 h1]
    exact Nat.mul_le_mul_right _ (by omega)
  push_cast [nenv, L1_nodes]
  refine ⟨fun hl => ?_, fun hl => ?_⟩
  · have hl1 : 1 ≤ left := by omega
    have hG1 := hG1 hl1
    have hG2 := hG2 hl1
    refine ⟨fun hd0 => ?_, fun hd0 => ?_⟩
    · refine scoop_wp hp (by omega) (by omega) (by omega) fun v2 S3 _ _ hp hf3 => ?_
      have hf := hf.trans hf3
      push_cast
      refine ⟨fun hv => ?_, fun hv => ?_⟩
      · obtain ⟨j, rfl⟩ : ∃ j, deep = j + 1 := ⟨deep - 1, by omega⟩
        have hGj : Gn (j + 1) most = 9 + most * Gn j most := rfl
        have hGl : left * Gn j left ≤ most * Gn j most := Nat.mul_le_mul (by omega) (Gn_mono j (by omega))
        have e1 : ((j + 1 : Nat) : Int) - 1 = (j : Nat) := by omega
        push_cast [nrp, e1]
        refine ih j left _ _ _ _ (by omega) hl1 (by omega) hp.new (by omega) fun l S4 lo l0 ld ls hp4 hf4 => ?_
        obtain ⟨S5, rfl, hf5⟩ := hf4.cut hp.lt
        have hp := hp4.old (by have := hf5.len; have := hp.lt; omega)
        have hf := hf.trans hf5
        have hfl := fl_eL 8 l (by omega) lo
        push_cast [hf.len]
        refine scoop_wp hp (by omega) (by omega) (by omega) fun t S6 t0 t1 hp hf6 => ?_
        have hf := hf.trans hf6
        push_cast [hf.len, hfl, List.length_map, law_scans_ok 8 l (by omega) lo (by omega)]
        have hsp := scss_pos l _ _ lo l0
        refine ⟨by omega, (S6, F ++ [.rp l (2 + t)], left - (scss l).length, some (.lst (l.map eL)), x8, x9, x10), ?_, ?_, ⟨hp.mono ?_, hf, ?_, ?_, ?_⟩, by show left - (scss l).length < left; omega⟩
        · simp only
          rw [show (((left - (scss l).length : Nat)) : Int) = (left : Int) - ((scss l).length : Nat) by omega]
        · simp only [List.map_append, List.map_cons, List.map_nil, eL_rp]
        · have : (most - left) * Gn (j + 1) most + Gn (j + 1) most ≤ (most - (left - (scss l).length)) * Gn (j + 1) most := by
            rw [← hG1]
            exact Nat.mul_le_mul_right _ (by omega)
          show _ ≤ k + 1 + (most - (left - (scss l).length)) * Gn (j + 1) most
          omega
        · rw [oks_app, oks_one, ok]
          exact ⟨hok, l0, by omega, lo⟩
        · rw [dps_app, dps_one, dp]
          omega
        · rw [scss_app, scss_one, scs, List.length_append]
          show _ + (left - (scss l).length) = _
          omega
      · refine nsc_wo hf.len.symm hp (by omega) hw hw2 (by omega) fun S4 a b ho hp4 hf4 x8 x9 x10 => ?_
        refine ⟨(S4, F ++ [.sc a b], left - 1, x7, x8, x9, x10), ?_, rfl, ⟨hp4.mono ?_, hf.trans hf4, ?_, ?_, ?_⟩, ?_⟩
        · simp only
          rw [show ((left - 1 : Nat) : Int) = (left : Int) - 1 by omega]
        · show _ ≤ k + 1 + (most - (left - 1)) * Gn deep most
          omega
        · rw [oks_app, oks_one]
          exact ⟨hok, ho⟩
        · rw [dps_app, dps_one, dp]
          omega
        · rw [scss_app, scss_one, scs, List.length_append]
          show _ + 1 + (left - 1) = _
          omega
        · show left - 1 < left
          omega
    · refine nsc_wo hf.len.symm hp (by omega) hw hw2 (by omega) fun S4 a b ho hp4 hf4 x8 x9 x10 => ?_
      refine ⟨(S4, F ++ [.sc a b], left - 1, x7, x8, x9, x10), ?_, rfl, ⟨hp4.mono ?_, hf.trans hf4, ?_, ?_, ?_⟩, ?_⟩
      · simp only
        rw [show ((left - 1 : Nat) : Int) = (left : Int) - 1 by omega]
      · show _ ≤ k + 1 + (most - (left - 1)) * Gn deep most
        omega
      · rw [oks_app, oks_one]
        exact ⟨hok, ho⟩
      · rw [dps_app, dps_one, dp]
        omega
      · rw [scss_app, scss_one, scs, List.length_append]
        show _ + 1 + (left - 1) = _
        omega
      · show left - 1 < left
        omega
  · push_cast [hf.len]
    refine q F S2 hok ?_ hdp (by omega) (hp.mono ?_) hf
    · rintro rfl
      rw [scss] at hsc
      simp at hsc
      omega
    · have : (most - left) * Gn deep most ≤ most * Gn deep most := Nat.mul_le_mul_right _ (by omega)
      omega
theorem nodes_wp {w h : Int} (hw : 1 ≤ w) (hw2 : w < 10 ^ 60) (hh : 1 ≤ h) (hh2 : h < 10 ^ 60) (c : Nat) :
    ∀ n, n ≤ 8 → ∀ (deep most : Nat) (k : Nat) (S : Cells) (Q : D → Cells → Prop) (E : Xc → Cells → Prop), deep < n → 1 ≤ most → most ≤ 1000 → Ket S c k → k + (1 + most * Gn deep most) ≤ 10 ^ 38 →
      (∀ l S', oks w (h + 1) l → l ≠ [] → dps l ≤ deep → (scss l).length ≤ most → Ket S' c (k + (1 + most * Gn deep most)) → Fr S S' c → Q (.lst (l.map eL)) S') → wp (g__law_nodes n [.ref c, .int most, .int deep, .int w, .int h] S) Q E := by
  intro n
  induction n with
  | zero => intro _ deep most k S Q E h; omega
  | succ n ih => intro hn deep most k S Q E hd hm hm2 hp hk q; exact nodes_step (by omega) hw hw2 hh hh2 c (ih (by omega)) deep most k S Q E (by omega) hm hm2 hp hk q
end

end K26
end
section
set_option maxHeartbeats 4000000
set_option exponentiation.threshold 3000
namespace K26
open PySem PySem.Spec L2 DL
open PyProof.Rows hiding St
open Lean in
local macro_rules | `(tactic| push_cast [$ts,*]) => `(tactic| simp only [↓DL.r0, ↓DL.r1, ↓DL.r2, ↓DL.r3, ↓DL.r4, ↓DL.r5, ↓DL.r6, ↓DL.r7, ↓DL.r8, ↓DL.r9, ↓DL.r10, ↓DL.r11, ↓DL.r12, ↓DL.r13, ↓DL.r14, ↓DL.r15, ↓DL.r16, ↓DL.r17, ↓DL.r18, ↓DL.r19, ↓DL.r20, ↓DL.r21, ↓DL.r22, ↓DL.r23, ↓DL.r24, ↓DL.r25, ↓DL.r26, ↓DL.r27, ↓DL.r28, ↓DL.r29, DL.s0, DL.s1, DL.s2, DL.s3, DL.s4, DL.s5, DL.s6, DL.s7, DL.s8, DL.s9, DL.s10, DL.s11, DL.s12, DL.s13, DL.s14, DL.s15, DL.s16, DL.s17, DL.s18, DL.s19, DL.s20, DL.s21, DL.s22, DL.s23, DL.s24, DL.s25, DL.s26, DL.s27, DL.s28, DL.s29, DL.startD_cons, DL.startD_nil, DL.startD_zero, ↓DL.w_ok, ↓DL.w_some, ↓DL.w_somec, ↓DL.w_bind, ↓DL.w_opt, ↓DL.w_chg, ↓DL.w_kon, ↓DL.w_calm, ↓DL.w_b2, ↓DL.w_b2L, ↓DL.w_b1, ↓DL.wB_bl, ↓DL.w_asB, ↓DL.w_b2T, ↓DL.w_chE, ↓DL.w_chT, ↓DL.w_not, ↓DL.w_val, ↓DL.w_notE, ↓DL.w_ifE, ↓DL.w_ifL, ↓DL.w_andM, ↓DL.w_orM, ↓DL.w_andE, ↓DL.w_orE, ↓DL.w_nil, ↓DL.w_cons, ↓DL.w_tup, ↓DL.w_lst, ↓DL.w_frz, ↓DL.w_new, ↓DL.w_cel, ↓DL.w_cb, ↓DL.w_cbL, ↓DL.w_call, ↓DL.w_callL, ↓DL.w_ar0, ↓DL.w_ar1, ↓DL.w_ar2, ↓DL.w_ar3, ↓DL.w_ar4, ↓DL.w_ar5, ↓DL.w_ar6, ↓DL.w_noO, ↓DL.w_smO, ↓DL.w_sl, ↓DL.w_slL, ↓DL.w_rev, ↓DL.w_step, ↓DL.w_isi, ↓DL.w_sets, ↓DL.w_lrg, ↓DL.w_mth, ↓DL.w_mth0, ↓DL.w_itS, ↓DL.w_itR1, ↓DL.w_itR2, ↓DL.w_itR3, ↓DL.w_itZ, ↓DL.w_itN, ↓DL.w_lc, ↓DL.w_nx, ↓DL.w_rt, ↓DL.w_seq, ↓DL.w_set, ↓DL.wPar_2, ↓DL.w_par, ↓DL.w_aug, ↓DL.w_sto, ↓DL.w_exp, ↓DL.w_ret, ↓DL.w_retN, ↓DL.w_nxS, ↓DL.w_ifS, ↓DL.w_for, ↓DL.w_asg, ↓DL.w_stk, ↓DL.w_body, ↓DL.w_bodyL, ↓DL.wret_non, ↓DL.wret_bl, ↓DL.wret_int, ↓DL.wret_str, ↓DL.wif_t, ↓DL.wif_f, ↓DL.wif_d, ↓DL.wif_n, ↓DL.wif_a, ↓DL.wif_o, DL.few0, DL.few1, DL.few2, DL.few3, DL.few4, DL.few5, DL.few6, DL.few7, DL.few8, DL.few9, DL.few10, true_and, and_true, ↓DL.a_nm, ↓DL.a_tp1, ↓DL.a_tp2, ↓DL.a_tp3, ↓DL.a_tp4, ↓DL.a_tp5, ↓DL.a_tpn, ↓DL.a_tpm, ↓DL.a_encP, DL.wipe_nil, DL.wipe_cons, DL.o_add, DL.o_sub, DL.o_neg, ↓DL.o_mul, ↓DL.o_div, ↓DL.o_mod, DL.o_pow, ↓DL.o_p10_3, ↓DL.o_p10_4, ↓DL.o_p10_6, ↓DL.o_p10_8, ↓DL.o_p10_9, ↓DL.o_p10_12, ↓DL.o_p10_15, ↓DL.o_p10_18, ↓DL.o_p10_20, ↓DL.o_p10_25, ↓DL.o_p10_26, ↓DL.o_p10_27, ↓DL.o_p10_28, ↓DL.o_p10_29, ↓DL.o_p10_30, ↓DL.o_p10_31, ↓DL.o_p10_36, ↓DL.o_p10_38, ↓DL.o_p10_40, ↓DL.o_p10_42, ↓DL.o_p10_44, ↓DL.o_p10_46, ↓DL.o_p10_48, ↓DL.o_p10_50, ↓DL.o_p10_60, ↓DL.o_p10_64, ↓DL.o_p10_70, ↓DL.o_p10_90, ↓DL.o_p10_99, ↓DL.o_p10_100, ↓DL.o_addS, ↓DL.o_addT, ↓DL.o_catL, ↓DL.o_addL, DL.o_lt, DL.o_le, DL.o_gt, DL.o_ge, DL.o_eqI, DL.o_neI, DL.o_eqS, DL.o_neS, DL.o_is, DL.o_isn, DL.n_non, DL.n_bl, DL.n_int, DL.n_str, DL.n_lst, DL.n_tup, DL.n_ref, DL.n_obj, DL.i_non_int, DL.i_non_bool, DL.i_non_str, DL.i_non_list, DL.i_non_tuple, DL.i_bl_int, DL.i_bl_bool, DL.i_bl_str, DL.i_bl_list, DL.i_bl_tuple, DL.i_int_int, DL.i_int_bool, DL.i_int_str, DL.i_int_list, DL.i_int_tuple, DL.i_str_int, DL.i_str_bool, DL.i_str_str, DL.i_str_list, DL.i_str_tuple, DL.i_lst_int, DL.i_lst_bool, DL.i_lst_str, DL.i_lst_list, DL.i_lst_tuple, DL.i_tup_int, DL.i_tup_bool, DL.i_tup_str, DL.i_tup_list, DL.i_tup_tuple, DL.t_non, DL.t_bl, DL.t_int, DL.t_lst, DL.t_tup, ↓DL.x_lst, ↓DL.x_tup, ↓DL.x_encP0, ↓DL.x_encP1, DL.ixn1_0, DL.ixn1_m1, DL.ixn2_0, DL.ixn2_1, DL.ixn2_m1, DL.ixn3_0, DL.ixn3_1, DL.ixn3_2, DL.ixn3_m1, DL.ixn4_0, DL.ixn4_1, DL.ixn4_2, DL.ixn4_3, DL.ixn4_m1, DL.ixn5_0, DL.ixn5_1, DL.ixn5_2, DL.ixn5_3, DL.ixn5_4, DL.ixn5_m1, DL.ixn6_0, DL.ixn6_1, DL.ixn6_2, DL.ixn6_3, DL.ixn6_4, DL.ixn6_5, DL.ixn6_m1, DL.ixn7_0, DL.ixn7_1, DL.ixn7_2, DL.ixn7_3, DL.ixn7_4, DL.ixn7_5, DL.ixn7_6, DL.ixn7_m1, DL.ixn8_0, DL.ixn8_1, DL.ixn8_2, DL.ixn8_3, DL.ixn8_4, DL.ixn8_5, DL.ixn8_6, DL.ixn8_7, DL.ixn8_m1, ↓DL.x1_0, ↓DL.x1_m1, ↓DL.x2_0, ↓DL.x2_1, ↓DL.x2_m1, ↓DL.x3_0, ↓DL.x3_1, ↓DL.x3_2, ↓DL.x3_m1, ↓DL.x4_0, ↓DL.x4_1, ↓DL.x4_2, ↓DL.x4_3, ↓DL.x4_m1, ↓DL.x5_0, ↓DL.x5_1, ↓DL.x5_2, ↓DL.x5_3, ↓DL.x5_4, ↓DL.x5_m1, ↓DL.x6_0, ↓DL.x6_1, ↓DL.x6_2, ↓DL.x6_3, ↓DL.x6_4, ↓DL.x6_5, ↓DL.x6_m1, ↓DL.x7_0, ↓DL.x7_1, ↓DL.x7_2, ↓DL.x7_3, ↓DL.x7_4, ↓DL.x7_5, ↓DL.x7_6, ↓DL.x7_m1, ↓DL.x8_0, ↓DL.x8_1, ↓DL.x8_2, ↓DL.x8_3, ↓DL.x8_4, ↓DL.x8_5, ↓DL.x8_6, ↓DL.x8_7, ↓DL.x8_m1, DL.c_abs, DL.c_max2, DL.c_min2, DL.c_int, DL.c_intb, DL.c_lenS, DL.c_lenT, DL.c_lenL, DL.c_listT, DL.c_listL, DL.c_tupT, DL.c_tupL, DL.c_sum, DL.c_sum0, DL.c_all, DL.c_any, DL.c_minP, DL.c_maxP, DL.c_sortP, DL.c_zip, DL.c_enum, DL.c_range1, DL.c_range2, DL.g_lst, DL.g_tup, DL.g_str, DL.p_int, DL.sq_lst, DL.sl_lst, DL.sl_tup, DL.sl_str, DL.slL_lst, DL.om_some, List.set_cons_zero, List.set_cons_succ, DL.m_tyL, DL.m_tyS, DL.m_ty, DL.m_app, DL.m_sto, DL.m_fzL, DL.m_fzI, DL.m_fzT, DL.m_fz, DL.x_ref, DL.c_lenR, DL.c_listR, DL.c_tupR, DL.sl_ref, DL.atL_new, DL.atL_new1, DL.atL_new2, DL.atL_old, DL.set_new, DL.set_new1, DL.set_new2, DL.set_old, DL.take_app, DL.app_app, DL.cons_app, DL.nil_app, DL.len_app1, DL.len_app2, DL.len_app3, DL.len_set, DL.seq_new, DL.seq_new1, DL.seq_new2, DL.seq_old, DL.ex_some, DL.fl_non, DL.fl_int, DL.fl_bl, DL.fl_str, DL.fl_tup, DL.fl_lst, DL.fl_obj, DL.fl_nil, DL.fl_cons, DL.fl_app, DL.fl_encP, Bool.and_self, Bool.and_true, Bool.true_and, List.set_set, ↓DL.w_yes, ↓DL.w_fld, ↓DL.w_mt, ↓DL.w_mtL, ↓DL.w_mt0, ↓DL.w_mt0L, ↓DL.w_ic, DL.isO_obj, ↓DL.w_make, ↓DL.w_b2M, ↓DL.w_b2MT, DL.c_intU, DL.c_intbU, ↓DL.w_mthL, ↓DL.w_uM, ↓DL.w_inv, ↓DL.w_bin_obj, ↓DL.w_bin_int, ↓DL.w_fldS, DL.m_fld, DL.atI_new, DL.putD, ↓DL.w_repL, ↓DL.w_isiC, ↓DL.w_par3, ↓DL.wPar3_3, DL.m_count, DL.wretL_new, DL.wret_new, ↓DL.c_setSort, DL.o_addI, DL.o_inS, DL.o_ninS, ↓DL.c_str, ↓DL.c_intSw, ↓DL.m_ext, DL.slt_l, DL.slt_t, DL.slt_r, ↓DL.c_dm, ↓DL.c_split, ↓DL.c_join, ↓DL.c_rep, ↓DL.x_str, ↓DL.o_catRL, ↓DL.o_addRL, ↓DL.wret_tup, ↓DL.wret_lst, List.take_length, List.length_cons, List.length_nil, List.length_map, Int.cast_ofNat_Int, Bool.not_true, Bool.not_false, Int.reduceAdd, Int.reduceSub, Int.reduceMul, Int.reduceNeg, Int.reduceEq, Int.reduceLT, Int.reduceLE, Nat.reduceAdd, Nat.reduceSub, eq_self, not_true_eq_false, not_false_eq_true, false_implies, implies_true, true_implies, ff_Nodes_held, ff_Program_own_nodes, fm_Program_accesses, isf_Nodes_Nodes, isf_Nodes_Program, isf_Nodes_0s, isf_Nodes_0i, isf_Nodes_0l, isf_Nodes_0t, isf_Nodes_0n, isf_Nodes_0b, isf_Program_Nodes, isf_Program_Program, isf_Program_0s, isf_Program_0i, isf_Program_0l, isf_Program_0t, isf_Program_0n, isf_Program_0b, $ts,*])
open Lean in
local macro_rules | `(tactic| push_cast) => `(tactic| simp only [↓DL.r0, ↓DL.r1, ↓DL.r2, ↓DL.r3, ↓DL.r4, ↓DL.r5, ↓DL.r6, ↓DL.r7, ↓DL.r8, ↓DL.r9, ↓DL.r10, ↓DL.r11, ↓DL.r12, ↓DL.r13, ↓DL.r14, ↓DL.r15, ↓DL.r16, ↓DL.r17, ↓DL.r18, ↓DL.r19, ↓DL.r20, ↓DL.r21, ↓DL.r22, ↓DL.r23, ↓DL.r24, ↓DL.r25, ↓DL.r26, ↓DL.r27, ↓DL.r28, ↓DL.r29, DL.s0, DL.s1, DL.s2, DL.s3, DL.s4, DL.s5, DL.s6, DL.s7, DL.s8, DL.s9, DL.s10, DL.s11, DL.s12, DL.s13, DL.s14, DL.s15, DL.s16, DL.s17, DL.s18, DL.s19, DL.s20, DL.s21, DL.s22, DL.s23, DL.s24, DL.s25, DL.s26, DL.s27, DL.s28, DL.s29, DL.startD_cons, DL.startD_nil, DL.startD_zero, ↓DL.w_ok, ↓DL.w_some, ↓DL.w_somec, ↓DL.w_bind, ↓DL.w_opt, ↓DL.w_chg, ↓DL.w_kon, ↓DL.w_calm, ↓DL.w_b2, ↓DL.w_b2L, ↓DL.w_b1, ↓DL.wB_bl, ↓DL.w_asB, ↓DL.w_b2T, ↓DL.w_chE, ↓DL.w_chT, ↓DL.w_not, ↓DL.w_val, ↓DL.w_notE, ↓DL.w_ifE, ↓DL.w_ifL, ↓DL.w_andM, ↓DL.w_orM, ↓DL.w_andE, ↓DL.w_orE, ↓DL.w_nil, ↓DL.w_cons, ↓DL.w_tup, ↓DL.w_lst, ↓DL.w_frz, ↓DL.w_new, ↓DL.w_cel, ↓DL.w_cb, ↓DL.w_cbL, ↓DL.w_call, ↓DL.w_callL, ↓DL.w_ar0, ↓DL.w_ar1, ↓DL.w_ar2, ↓DL.w_ar3, ↓DL.w_ar4, ↓DL.w_ar5, ↓DL.w_ar6, ↓DL.w_noO, ↓DL.w_smO, ↓DL.w_sl, ↓DL.w_slL, ↓DL.w_rev, ↓DL.w_step, ↓DL.w_isi, ↓DL.w_sets, ↓DL.w_lrg, ↓DL.w_mth, ↓DL.w_mth0, ↓DL.w_itS, ↓DL.w_itR1, ↓DL.w_itR2, ↓DL.w_itR3, ↓DL.w_itZ, ↓DL.w_itN, ↓DL.w_lc, ↓DL.w_nx, ↓DL.w_rt, ↓DL.w_seq, ↓DL.w_set, ↓DL.wPar_2, ↓DL.w_par, ↓DL.w_aug, ↓DL.w_sto, ↓DL.w_exp, ↓DL.w_ret, ↓DL.w_retN, ↓DL.w_nxS, ↓DL.w_ifS, ↓DL.w_for, ↓DL.w_asg, ↓DL.w_stk, ↓DL.w_body, ↓DL.w_bodyL, ↓DL.wret_non, ↓DL.wret_bl, ↓DL.wret_int, ↓DL.wret_str, ↓DL.wif_t, ↓DL.wif_f, ↓DL.wif_d, ↓DL.wif_n, ↓DL.wif_a, ↓DL.wif_o, DL.few0, DL.few1, DL.few2, DL.few3, DL.few4, DL.few5, DL.few6, DL.few7, DL.few8, DL.few9, DL.few10, true_and, and_true, ↓DL.a_nm, ↓DL.a_tp1, ↓DL.a_tp2, ↓DL.a_tp3, ↓DL.a_tp4, ↓DL.a_tp5, ↓DL.a_tpn, ↓DL.a_tpm, ↓DL.a_encP, DL.wipe_nil, DL.wipe_cons, DL.o_add, DL.o_sub, DL.o_neg, ↓DL.o_mul, ↓DL.o_div, ↓DL.o_mod, DL.o_pow, ↓DL.o_p10_3, ↓DL.o_p10_4, ↓DL.o_p10_6, ↓DL.o_p10_8, ↓DL.o_p10_9, ↓DL.o_p10_12, ↓DL.o_p10_15, ↓DL.o_p10_18, ↓DL.o_p10_20, ↓DL.o_p10_25, ↓DL.o_p10_26, ↓DL.o_p10_27, ↓DL.o_p10_28, ↓DL.o_p10_29, ↓DL.o_p10_30, ↓DL.o_p10_31, ↓DL.o_p10_36, ↓DL.o_p10_38, ↓DL.o_p10_40, ↓DL.o_p10_42, ↓DL.o_p10_44, ↓DL.o_p10_46, ↓DL.o_p10_48, ↓DL.o_p10_50, ↓DL.o_p10_60, ↓DL.o_p10_64, ↓DL.o_p10_70, ↓DL.o_p10_90, ↓DL.o_p10_99, ↓DL.o_p10_100, ↓DL.o_addS, ↓DL.o_addT, ↓DL.o_catL, ↓DL.o_addL, DL.o_lt, DL.o_le, DL.o_gt, DL.o_ge, DL.o_eqI, DL.o_neI, DL.o_eqS, DL.o_neS, DL.o_is, DL.o_isn, DL.n_non, DL.n_bl, DL.n_int, DL.n_str, DL.n_lst, DL.n_tup, DL.n_ref, DL.n_obj, DL.i_non_int, DL.i_non_bool, DL.i_non_str, DL.i_non_list, DL.i_non_tuple, DL.i_bl_int, DL.i_bl_bool, DL.i_bl_str, DL.i_bl_list, DL.i_bl_tuple, DL.i_int_int, DL.i_int_bool, DL.i_int_str, DL.i_int_list, DL.i_int_tuple, DL.i_str_int, DL.i_str_bool, DL.i_str_str, DL.i_str_list, DL.i_str_tuple, DL.i_lst_int, DL.i_lst_bool, DL.i_lst_str, DL.i_lst_list, DL.i_lst_tuple, DL.i_tup_int, DL.i_tup_bool, DL.i_tup_str, DL.i_tup_list, DL.i_tup_tuple, DL.t_non, DL.t_bl, DL.t_int, DL.t_lst, DL.t_tup, ↓DL.x_lst, ↓DL.x_tup, ↓DL.x_encP0, ↓DL.x_encP1, DL.ixn1_0, DL.ixn1_m1, DL.ixn2_0, DL.ixn2_1, DL.ixn2_m1, DL.ixn3_0, DL.ixn3_1, DL.ixn3_2, DL.ixn3_m1, DL.ixn4_0, DL.ixn4_1, DL.ixn4_2, DL.ixn4_3, DL.ixn4_m1, DL.ixn5_0, DL.ixn5_1, DL.ixn5_2, DL.ixn5_3, DL.ixn5_4, DL.ixn5_m1, DL.ixn6_0, DL.ixn6_1, DL.ixn6_2, DL.ixn6_3, DL.ixn6_4, DL.ixn6_5, DL.ixn6_m1, DL.ixn7_0, DL.ixn7_1, DL.ixn7_2, DL.ixn7_3, DL.ixn7_4, DL.ixn7_5, DL.ixn7_6, DL.ixn7_m1, DL.ixn8_0, DL.ixn8_1, DL.ixn8_2, DL.ixn8_3, DL.ixn8_4, DL.ixn8_5, DL.ixn8_6, DL.ixn8_7, DL.ixn8_m1, ↓DL.x1_0, ↓DL.x1_m1, ↓DL.x2_0, ↓DL.x2_1, ↓DL.x2_m1, ↓DL.x3_0, ↓DL.x3_1, ↓DL.x3_2, ↓DL.x3_m1, ↓DL.x4_0, ↓DL.x4_1, ↓DL.x4_2, ↓DL.x4_3, ↓DL.x4_m1, ↓DL.x5_0, ↓DL.x5_1, ↓DL.x5_2, ↓DL.x5_3, ↓DL.x5_4, ↓DL.x5_m1, ↓DL.x6_0, ↓DL.x6_1, ↓DL.x6_2, ↓DL.x6_3, ↓DL.x6_4, ↓DL.x6_5, ↓DL.x6_m1, ↓DL.x7_0, ↓DL.x7_1, ↓DL.x7_2, ↓DL.x7_3, ↓DL.x7_4, ↓DL.x7_5, ↓DL.x7_6, ↓DL.x7_m1, ↓DL.x8_0, ↓DL.x8_1, ↓DL.x8_2, ↓DL.x8_3, ↓DL.x8_4, ↓DL.x8_5, ↓DL.x8_6, ↓DL.x8_7, ↓DL.x8_m1, DL.c_abs, DL.c_max2, DL.c_min2, DL.c_int, DL.c_intb, DL.c_lenS, DL.c_lenT, DL.c_lenL, DL.c_listT, DL.c_listL, DL.c_tupT, DL.c_tupL, DL.c_sum, DL.c_sum0, DL.c_all, DL.c_any, DL.c_minP, DL.c_maxP, DL.c_sortP, DL.c_zip, DL.c_enum, DL.c_range1, DL.c_range2, DL.g_lst, DL.g_tup, DL.g_str, DL.p_int, DL.sq_lst, DL.sl_lst, DL.sl_tup, DL.sl_str, DL.slL_lst, DL.om_some, List.set_cons_zero, List.set_cons_succ, DL.m_tyL, DL.m_tyS, DL.m_ty, DL.m_app, DL.m_sto, DL.m_fzL, DL.m_fzI, DL.m_fzT, DL.m_fz, DL.x_ref, DL.c_lenR, DL.c_listR, DL.c_tupR, DL.sl_ref, DL.atL_new, DL.atL_new1, DL.atL_new2, DL.atL_old, DL.set_new, DL.set_new1, DL.set_new2, DL.set_old, DL.take_app, DL.app_app, DL.cons_app, DL.nil_app, DL.len_app1, DL.len_app2, DL.len_app3, DL.len_set, DL.seq_new, DL.seq_new1, DL.seq_new2, DL.seq_old, DL.ex_some, DL.fl_non, DL.fl_int, DL.fl_bl, DL.fl_str, DL.fl_tup, DL.fl_lst, DL.fl_obj, DL.fl_nil, DL.fl_cons, DL.fl_app, DL.fl_encP, Bool.and_self, Bool.and_true, Bool.true_and, List.set_set, ↓DL.w_yes, ↓DL.w_fld, ↓DL.w_mt, ↓DL.w_mtL, ↓DL.w_mt0, ↓DL.w_mt0L, ↓DL.w_ic, DL.isO_obj, ↓DL.w_make, ↓DL.w_b2M, ↓DL.w_b2MT, DL.c_intU, DL.c_intbU, ↓DL.w_mthL, ↓DL.w_uM, ↓DL.w_inv, ↓DL.w_bin_obj, ↓DL.w_bin_int, ↓DL.w_fldS, DL.m_fld, DL.atI_new, DL.putD, ↓DL.w_repL, ↓DL.w_isiC, ↓DL.w_par3, ↓DL.wPar3_3, DL.m_count, DL.wretL_new, DL.wret_new, ↓DL.c_setSort, DL.o_addI, DL.o_inS, DL.o_ninS, ↓DL.c_str, ↓DL.c_intSw, ↓DL.m_ext, DL.slt_l, DL.slt_t, DL.slt_r, ↓DL.c_dm, ↓DL.c_split, ↓DL.c_join, ↓DL.c_rep, ↓DL.x_str, ↓DL.o_catRL, ↓DL.o_addRL, ↓DL.wret_tup, ↓DL.wret_lst, List.take_length, List.length_cons, List.length_nil, List.length_map, Int.cast_ofNat_Int, Bool.not_true, Bool.not_false, Int.reduceAdd, Int.reduceSub, Int.reduceMul, Int.reduceNeg, Int.reduceEq, Int.reduceLT, Int.reduceLE, Nat.reduceAdd, Nat.reduceSub, eq_self, not_true_eq_false, not_false_eq_true, false_implies, implies_true, true_implies, ff_Nodes_held, ff_Program_own_nodes, fm_Program_accesses, isf_Nodes_Nodes, isf_Nodes_Program, isf_Nodes_0s, isf_Nodes_0i, isf_Nodes_0l, isf_Nodes_0t, isf_Nodes_0n, isf_Nodes_0b, isf_Program_Nodes, isf_Program_Program, isf_Program_0s, isf_Program_0i, isf_Program_0l, isf_Program_0t, isf_Program_0n, isf_Program_0b])
/-! small programs, words, reads, wide ones -/
open MT MN
section
variable {S : Cells} {E : Xc → Cells → Prop} {Q : D → Cells → Prop} {QL : List D → Cells → Prop}
theorem pow_mono {a b : Int} (h0 : 0 ≤ a) (h : a ≤ b) : ∀ n : Nat, a ^ n ≤ b ^ n
  | 0 => by simp
  | n + 1 => by
    rw [Int.pow_succ, Int.pow_succ]
    exact Int.mul_le_mul (pow_mono h0 h n) h h0 (Int.pow_nonneg (by omega))
theorem lens_small {w h : Int} {l : List Nd} (hk : oks w h l) (hw : 1 ≤ w) (hw2 : w < 10 ^ 60) (hh : 2 ≤ h) (hh2 : h ≤ 10 ^ 31) (hd : dps l ≤ 7) (hs : (scss l).length ≤ 1000) : lens l < 10 ^ 400 := by
  have h1 := lens_le hw hh 7 l hd hk
  have h2 : ((scss l).length : Int) * w ≤ 1000 * 10 ^ 60 := Int.mul_le_mul (by omega) (by omega) (by omega) (by decide)
  have h3 : h ^ 7 ≤ (10 ^ 31) ^ 7 := pow_mono (by omega) hh2 7
  have h4 := Int.mul_le_mul h2 h3 (Int.pow_nonneg (by omega)) (by decide)
  have h5 : (1000 * 10 ^ 60 : Int) * (10 ^ 31) ^ 7 < 10 ^ 400 := by decide +kernel
  omega
theorem dropLast_sub {l : List Nd} : ∃ r, l = l.dropLast ++ r ∧ r.length ≤ 1 := by
  cases h : l.reverse with
  | nil => exact ⟨[], by simp [List.reverse_eq_nil_iff.mp h], by simp⟩
  | cons a r =>
    have e : l = r.reverse ++ [a] := by rw [← List.reverse_reverse (as := l), h]; simp
    exact ⟨[a], by rw [e]; simp, by simp⟩
theorem small_wp {w : Int} (hw : 1 ≤ w) (hw2 : w < 10 ^ 60) {c deep most k : Nat} {limit : Int} (hl : 4 ≤ limit) (hd : deep ≤ 7) (hm : 1 ≤ most) (hm2 : most ≤ 1000) (hp : Ket S c k) (hk : k + (1 + most * Gn deep most) ≤ 10 ^ 38)
    (q : ∀ l S', oks w 4 l → l ≠ [] → dps l ≤ deep → (scss l).length ≤ most → lens l ≤ limit → Ket S' c (k + (1 + most * Gn deep most)) → Fr S S' c → Q (.lst (l.map eL)) S') : wp (g__law_small [.ref c, .int most, .int deep, .int w, .int limit] S) Q E := by
  have zz := z24
  push_cast [g__law_small, B__law_small]
  refine nodes_wp hw hw2 (by decide) (by decide) c 8 (by omega) deep most k _ _ _ (by omega) hm hm2 hp hk fun l S1 lo l0 ld ls hp hf => ?_
  push_cast
  refine w_while (σ := List Nd) (fun σ => [some (.ref c), some (.int most), some (.int deep), some (.int w), some (.int limit), some (.lst (σ.map eL))]) (fun _ => S1) (fun σ => oks w 4 σ ∧ σ ≠ [] ∧ dps σ ≤ deep ∧ (scss σ).length ≤ most)
    (fun σ => if lens σ ≤ limit then 0 else σ.length) l ⟨lo, l0, ld, ls⟩ ?_ rfl rfl
  rintro l ⟨lo, l0, ld, ls⟩
  have hb := lens_small lo hw hw2 (by decide) (by decide) (by omega) (by omega)
  push_cast [law_len_ok (h := 4) (by decide) 8 l (by omega) lo hb, List.length_map]
  refine ⟨fun hgt => ?_, fun hgt => ?_⟩
  · have hfl := fl_eL 8 l (by omega) lo
    push_cast [L1__law_small, cut_m1]
    refine ⟨fun h1 => ⟨l.dropLast, by rw [List.map_dropLast], ⟨?_, ?_, ?_, ?_⟩, ?_⟩, fun h1 => ⟨[.sc 0 (if 3 < w - 1 then 3 else w - 1)], ?_, ⟨?_, by simp, ?_, ?_⟩, ?_⟩⟩
    · obtain ⟨r, e, _⟩ := dropLast_sub (l := l)
      rw [e] at lo
      exact ((oks_app _ _).mp lo).1
    · intro e
      have := List.length_dropLast (xs := l)
      rw [e] at this
      simp at this
      omega
    · obtain ⟨r, e, _⟩ := dropLast_sub (l := l)
      rw [e, dps_app] at ld
      omega
    · obtain ⟨r, e, _⟩ := dropLast_sub (l := l)
      rw [e, scss_app, List.length_append] at ls
      omega
    · rw [if_neg (show ¬ lens l ≤ limit by omega)]
      split
      · omega
      · rw [List.length_dropLast]
        omega
    · simp only [List.map_cons, List.map_nil, eL_sc]
    · rw [oks_one, ok]
      split <;> omega
    · rw [dps_one, dp]
      omega
    · rw [scss_one, scs]
      simpa using hm
    · rw [if_neg (show ¬ lens l ≤ limit by omega), if_pos]
      · exact List.length_pos_iff.mpr l0
      · rw [lens_one, len, sz]
        (repeat' split) <;> omega
  · have hfl := fl_eL 8 l (by omega) lo
    push_cast [wret_lst hfl]
    rw [hf.len.symm, List.take_length]
    exact q l S1 lo l0 ld ls (by omega) hp hf
end

end K26
end
section
set_option maxHeartbeats 4000000
set_option exponentiation.threshold 3000
namespace K26
open PySem PySem.Spec L2 DL
open PyProof.Rows hiding St
open Lean in
local macro_rules | `(tactic| push_cast [$ts,*]) => `(tactic| simp only [↓DL.r0, ↓DL.r1, ↓DL.r2, ↓DL.r3, ↓DL.r4, ↓DL.r5, ↓DL.r6, ↓DL.r7, ↓DL.r8, ↓DL.r9, ↓DL.r10, ↓DL.r11, ↓DL.r12, ↓DL.r13, ↓DL.r14, ↓DL.r15, ↓DL.r16, ↓DL.r17, ↓DL.r18, ↓DL.r19, ↓DL.r20, ↓DL.r21, ↓DL.r22, ↓DL.r23, ↓DL.r24, ↓DL.r25, ↓DL.r26, ↓DL.r27, ↓DL.r28, ↓DL.r29, DL.s0, DL.s1, DL.s2, DL.s3, DL.s4, DL.s5, DL.s6, DL.s7, DL.s8, DL.s9, DL.s10, DL.s11, DL.s12, DL.s13, DL.s14, DL.s15, DL.s16, DL.s17, DL.s18, DL.s19, DL.s20, DL.s21, DL.s22, DL.s23, DL.s24, DL.s25, DL.s26, DL.s27, DL.s28, DL.s29, DL.startD_cons, DL.startD_nil, DL.startD_zero, ↓DL.w_ok, ↓DL.w_some, ↓DL.w_somec, ↓DL.w_bind, ↓DL.w_opt, ↓DL.w_chg, ↓DL.w_kon, ↓DL.w_calm, ↓DL.w_b2, ↓DL.w_b2L, ↓DL.w_b1, ↓DL.wB_bl, ↓DL.w_asB, ↓DL.w_b2T, ↓DL.w_chE, ↓DL.w_chT, ↓DL.w_not, ↓DL.w_val, ↓DL.w_notE, ↓DL.w_ifE, ↓DL.w_ifL, ↓DL.w_andM, ↓DL.w_orM, ↓DL.w_andE, ↓DL.w_orE, ↓DL.w_nil, ↓DL.w_cons, ↓DL.w_tup, ↓DL.w_lst, ↓DL.w_frz, ↓DL.w_new, ↓DL.w_cel, ↓DL.w_cb, ↓DL.w_cbL, ↓DL.w_call, ↓DL.w_callL, ↓DL.w_ar0, ↓DL.w_ar1, ↓DL.w_ar2, ↓DL.w_ar3, ↓DL.w_ar4, ↓DL.w_ar5, ↓DL.w_ar6, ↓DL.w_noO, ↓DL.w_smO, ↓DL.w_sl, ↓DL.w_slL, ↓DL.w_rev, ↓DL.w_step, ↓DL.w_isi, ↓DL.w_sets, ↓DL.w_lrg, ↓DL.w_mth, ↓DL.w_mth0, ↓DL.w_itS, ↓DL.w_itR1, ↓DL.w_itR2, ↓DL.w_itR3, ↓DL.w_itZ, ↓DL.w_itN, ↓DL.w_lc, ↓DL.w_nx, ↓DL.w_rt, ↓DL.w_seq, ↓DL.w_set, ↓DL.wPar_2, ↓DL.w_par, ↓DL.w_aug, ↓DL.w_sto, ↓DL.w_exp, ↓DL.w_ret, ↓DL.w_retN, ↓DL.w_nxS, ↓DL.w_ifS, ↓DL.w_for, ↓DL.w_asg, ↓DL.w_stk, ↓DL.w_body, ↓DL.w_bodyL, ↓DL.wret_non, ↓DL.wret_bl, ↓DL.wret_int, ↓DL.wret_str, ↓DL.wif_t, ↓DL.wif_f, ↓DL.wif_d, ↓DL.wif_n, ↓DL.wif_a, ↓DL.wif_o, DL.few0, DL.few1, DL.few2, DL.few3, DL.few4, DL.few5, DL.few6, DL.few7, DL.few8, DL.few9, DL.few10, true_and, and_true, ↓DL.a_nm, ↓DL.a_tp1, ↓DL.a_tp2, ↓DL.a_tp3, ↓DL.a_tp4, ↓DL.a_tp5, ↓DL.a_tpn, ↓DL.a_tpm, ↓DL.a_encP, DL.wipe_nil, DL.wipe_cons, DL.o_add, DL.o_sub, DL.o_neg, ↓DL.o_mul, ↓DL.o_div, ↓DL.o_mod, DL.o_pow, ↓DL.o_p10_3, ↓DL.o_p10_4, ↓DL.o_p10_6, ↓DL.o_p10_8, ↓DL.o_p10_9, ↓DL.o_p10_12, ↓DL.o_p10_15, ↓DL.o_p10_18, ↓DL.o_p10_20, ↓DL.o_p10_25, ↓DL.o_p10_26, ↓DL.o_p10_27, ↓DL.o_p10_28, ↓DL.o_p10_29, ↓DL.o_p10_30, ↓DL.o_p10_31, ↓DL.o_p10_36, ↓DL.o_p10_38, ↓DL.o_p10_40, ↓DL.o_p10_42, ↓DL.o_p10_44, ↓DL.o_p10_46, ↓DL.o_p10_48, ↓DL.o_p10_50, ↓DL.o_p10_60, ↓DL.o_p10_64, ↓DL.o_p10_70, ↓DL.o_p10_90, ↓DL.o_p10_99, ↓DL.o_p10_100, ↓DL.o_addS, ↓DL.o_addT, ↓DL.o_catL, ↓DL.o_addL, DL.o_lt, DL.o_le, DL.o_gt, DL.o_ge, DL.o_eqI, DL.o_neI, DL.o_eqS, DL.o_neS, DL.o_is, DL.o_isn, DL.n_non, DL.n_bl, DL.n_int, DL.n_str, DL.n_lst, DL.n_tup, DL.n_ref, DL.n_obj, DL.i_non_int, DL.i_non_bool, DL.i_non_str, DL.i_non_list, DL.i_non_tuple, DL.i_bl_int, DL.i_bl_bool, DL.i_bl_str, DL.i_bl_list, DL.i_bl_tuple, DL.i_int_int, DL.i_int_bool, DL.i_int_str, DL.i_int_list, DL.i_int_tuple, DL.i_str_int, DL.i_str_bool, DL.i_str_str, DL.i_str_list, DL.i_str_tuple, DL.i_lst_int, DL.i_lst_bool, DL.i_lst_str, DL.i_lst_list, DL.i_lst_tuple, DL.i_tup_int, DL.i_tup_bool, DL.i_tup_str, DL.i_tup_list, DL.i_tup_tuple, DL.t_non, DL.t_bl, DL.t_int, DL.t_lst, DL.t_tup, ↓DL.x_lst, ↓DL.x_tup, ↓DL.x_encP0, ↓DL.x_encP1, DL.ixn1_0, DL.ixn1_m1, DL.ixn2_0, DL.ixn2_1, DL.ixn2_m1, DL.ixn3_0, DL.ixn3_1, DL.ixn3_2, DL.ixn3_m1, DL.ixn4_0, DL.ixn4_1, DL.ixn4_2, DL.ixn4_3, DL.ixn4_m1, DL.ixn5_0, DL.ixn5_1, DL.ixn5_2, DL.ixn5_3, DL.ixn5_4, DL.ixn5_m1, DL.ixn6_0, DL.ixn6_1, DL.ixn6_2, DL.ixn6_3, DL.ixn6_4, DL.ixn6_5, DL.ixn6_m1, DL.ixn7_0, DL.ixn7_1, DL.ixn7_2, DL.ixn7_3, DL.ixn7_4, DL.ixn7_5, DL.ixn7_6, DL.ixn7_m1, DL.ixn8_0, DL.ixn8_1, DL.ixn8_2, DL.ixn8_3, DL.ixn8_4, DL.ixn8_5, DL.ixn8_6, DL.ixn8_7, DL.ixn8_m1, ↓DL.x1_0, ↓DL.x1_m1, ↓DL.x2_0, ↓DL.x2_1, ↓DL.x2_m1, ↓DL.x3_0, ↓DL.x3_1, ↓DL.x3_2, ↓DL.x3_m1, ↓DL.x4_0, ↓DL.x4_1, ↓DL.x4_2, ↓DL.x4_3, ↓DL.x4_m1, ↓DL.x5_0, ↓DL.x5_1, ↓DL.x5_2, ↓DL.x5_3, ↓DL.x5_4, ↓DL.x5_m1, ↓DL.x6_0, ↓DL.x6_1, ↓DL.x6_2, ↓DL.x6_3, ↓DL.x6_4, ↓DL.x6_5, ↓DL.x6_m1, ↓DL.x7_0, ↓DL.x7_1, ↓DL.x7_2, ↓DL.x7_3, ↓DL.x7_4, ↓DL.x7_5, ↓DL.x7_6, ↓DL.x7_m1, ↓DL.x8_0, ↓DL.x8_1, ↓DL.x8_2, ↓DL.x8_3, ↓DL.x8_4, ↓DL.x8_5, ↓DL.x8_6, ↓DL.x8_7, ↓DL.x8_m1, DL.c_abs, DL.c_max2, DL.c_min2, DL.c_int, DL.c_intb, DL.c_lenS, DL.c_lenT, DL.c_lenL, DL.c_listT, DL.c_listL, DL.c_tupT, DL.c_tupL, DL.c_sum, DL.c_sum0, DL.c_all, DL.c_any, DL.c_minP, DL.c_maxP, DL.c_sortP, DL.c_zip, DL.c_enum, DL.c_range1, DL.c_range2, DL.g_lst, DL.g_tup, DL.g_str, DL.p_int, DL.sq_lst, DL.sl_lst, DL.sl_tup, DL.sl_str, DL.slL_lst, DL.om_some, List.set_cons_zero, List.set_cons_succ, DL.m_tyL, DL.m_tyS, DL.m_ty, DL.m_app, DL.m_sto, DL.m_fzL, DL.m_fzI, DL.m_fzT, DL.m_fz, DL.x_ref, DL.c_lenR, DL.c_listR, DL.c_tupR, DL.sl_ref, DL.atL_new, DL.atL_new1, DL.atL_new2, DL.atL_old, DL.set_new, DL.set_new1, DL.set_new2, DL.set_old, DL.take_app, DL.app_app, DL.cons_app, DL.nil_app, DL.len_app1, DL.len_app2, DL.len_app3, DL.len_set, DL.seq_new, DL.seq_new1, DL.seq_new2, DL.seq_old, DL.ex_some, DL.fl_non, DL.fl_int, DL.fl_bl, DL.fl_str, DL.fl_tup, DL.fl_lst, DL.fl_obj, DL.fl_nil, DL.fl_cons, DL.fl_app, DL.fl_encP, Bool.and_self, Bool.and_true, Bool.true_and, List.set_set, ↓DL.w_yes, ↓DL.w_fld, ↓DL.w_mt, ↓DL.w_mtL, ↓DL.w_mt0, ↓DL.w_mt0L, ↓DL.w_ic, DL.isO_obj, ↓DL.w_make, ↓DL.w_b2M, ↓DL.w_b2MT, DL.c_intU, DL.c_intbU, ↓DL.w_mthL, ↓DL.w_uM, ↓DL.w_inv, ↓DL.w_bin_obj, ↓DL.w_bin_int, ↓DL.w_fldS, DL.m_fld, DL.atI_new, DL.putD, ↓DL.w_repL, ↓DL.w_isiC, ↓DL.w_par3, ↓DL.wPar3_3, DL.m_count, DL.wretL_new, DL.wret_new, ↓DL.c_setSort, DL.o_addI, DL.o_inS, DL.o_ninS, ↓DL.c_str, ↓DL.c_intSw, ↓DL.m_ext, DL.slt_l, DL.slt_t, DL.slt_r, ↓DL.c_dm, ↓DL.c_split, ↓DL.c_join, ↓DL.c_rep, ↓DL.x_str, ↓DL.o_catRL, ↓DL.o_addRL, ↓DL.wret_tup, ↓DL.wret_lst, List.take_length, List.length_cons, List.length_nil, List.length_map, Int.cast_ofNat_Int, Bool.not_true, Bool.not_false, Int.reduceAdd, Int.reduceSub, Int.reduceMul, Int.reduceNeg, Int.reduceEq, Int.reduceLT, Int.reduceLE, Nat.reduceAdd, Nat.reduceSub, eq_self, not_true_eq_false, not_false_eq_true, false_implies, implies_true, true_implies, ff_Nodes_held, ff_Program_own_nodes, fm_Program_accesses, isf_Nodes_Nodes, isf_Nodes_Program, isf_Nodes_0s, isf_Nodes_0i, isf_Nodes_0l, isf_Nodes_0t, isf_Nodes_0n, isf_Nodes_0b, isf_Program_Nodes, isf_Program_Program, isf_Program_0s, isf_Program_0i, isf_Program_0l, isf_Program_0t, isf_Program_0n, isf_Program_0b, $ts,*])
open Lean in
local macro_rules | `(tactic| push_cast) => `(tactic| simp only [↓DL.r0, ↓DL.r1, ↓DL.r2, ↓DL.r3, ↓DL.r4, ↓DL.r5, ↓DL.r6, ↓DL.r7, ↓DL.r8, ↓DL.r9, ↓DL.r10, ↓DL.r11, ↓DL.r12, ↓DL.r13, ↓DL.r14, ↓DL.r15, ↓DL.r16, ↓DL.r17, ↓DL.r18, ↓DL.r19, ↓DL.r20, ↓DL.r21, ↓DL.r22, ↓DL.r23, ↓DL.r24, ↓DL.r25, ↓DL.r26, ↓DL.r27, ↓DL.r28, ↓DL.r29, DL.s0, DL.s1, DL.s2, DL.s3, DL.s4, DL.s5, DL.s6, DL.s7, DL.s8, DL.s9, DL.s10, DL.s11, DL.s12, DL.s13, DL.s14, DL.s15, DL.s16, DL.s17, DL.s18, DL.s19, DL.s20, DL.s21, DL.s22, DL.s23, DL.s24, DL.s25, DL.s26, DL.s27, DL.s28, DL.s29, DL.startD_cons, DL.startD_nil, DL.startD_zero, ↓DL.w_ok, ↓DL.w_some, ↓DL.w_somec, ↓DL.w_bind, ↓DL.w_opt, ↓DL.w_chg, ↓DL.w_kon, ↓DL.w_calm, ↓DL.w_b2, ↓DL.w_b2L, ↓DL.w_b1, ↓DL.wB_bl, ↓DL.w_asB, ↓DL.w_b2T, ↓DL.w_chE, ↓DL.w_chT, ↓DL.w_not, ↓DL.w_val, ↓DL.w_notE, ↓DL.w_ifE, ↓DL.w_ifL, ↓DL.w_andM, ↓DL.w_orM, ↓DL.w_andE, ↓DL.w_orE, ↓DL.w_nil, ↓DL.w_cons, ↓DL.w_tup, ↓DL.w_lst, ↓DL.w_frz, ↓DL.w_new, ↓DL.w_cel, ↓DL.w_cb, ↓DL.w_cbL, ↓DL.w_call, ↓DL.w_callL, ↓DL.w_ar0, ↓DL.w_ar1, ↓DL.w_ar2, ↓DL.w_ar3, ↓DL.w_ar4, ↓DL.w_ar5, ↓DL.w_ar6, ↓DL.w_noO, ↓DL.w_smO, ↓DL.w_sl, ↓DL.w_slL, ↓DL.w_rev, ↓DL.w_step, ↓DL.w_isi, ↓DL.w_sets, ↓DL.w_lrg, ↓DL.w_mth, ↓DL.w_mth0, ↓DL.w_itS, ↓DL.w_itR1, ↓DL.w_itR2, ↓DL.w_itR3, ↓DL.w_itZ, ↓DL.w_itN, ↓DL.w_lc, ↓DL.w_nx, ↓DL.w_rt, ↓DL.w_seq, ↓DL.w_set, ↓DL.wPar_2, ↓DL.w_par, ↓DL.w_aug, ↓DL.w_sto, ↓DL.w_exp, ↓DL.w_ret, ↓DL.w_retN, ↓DL.w_nxS, ↓DL.w_ifS, ↓DL.w_for, ↓DL.w_asg, ↓DL.w_stk, ↓DL.w_body, ↓DL.w_bodyL, ↓DL.wret_non, ↓DL.wret_bl, ↓DL.wret_int, ↓DL.wret_str, ↓DL.wif_t, ↓DL.wif_f, ↓DL.wif_d, ↓DL.wif_n, ↓DL.wif_a, ↓DL.wif_o, DL.few0, DL.few1, DL.few2, DL.few3, DL.few4, DL.few5, DL.few6, DL.few7, DL.few8, DL.few9, DL.few10, true_and, and_true, ↓DL.a_nm, ↓DL.a_tp1, ↓DL.a_tp2, ↓DL.a_tp3, ↓DL.a_tp4, ↓DL.a_tp5, ↓DL.a_tpn, ↓DL.a_tpm, ↓DL.a_encP, DL.wipe_nil, DL.wipe_cons, DL.o_add, DL.o_sub, DL.o_neg, ↓DL.o_mul, ↓DL.o_div, ↓DL.o_mod, DL.o_pow, ↓DL.o_p10_3, ↓DL.o_p10_4, ↓DL.o_p10_6, ↓DL.o_p10_8, ↓DL.o_p10_9, ↓DL.o_p10_12, ↓DL.o_p10_15, ↓DL.o_p10_18, ↓DL.o_p10_20, ↓DL.o_p10_25, ↓DL.o_p10_26, ↓DL.o_p10_27, ↓DL.o_p10_28, ↓DL.o_p10_29, ↓DL.o_p10_30, ↓DL.o_p10_31, ↓DL.o_p10_36, ↓DL.o_p10_38, ↓DL.o_p10_40, ↓DL.o_p10_42, ↓DL.o_p10_44, ↓DL.o_p10_46, ↓DL.o_p10_48, ↓DL.o_p10_50, ↓DL.o_p10_60, ↓DL.o_p10_64, ↓DL.o_p10_70, ↓DL.o_p10_90, ↓DL.o_p10_99, ↓DL.o_p10_100, ↓DL.o_addS, ↓DL.o_addT, ↓DL.o_catL, ↓DL.o_addL, DL.o_lt, DL.o_le, DL.o_gt, DL.o_ge, DL.o_eqI, DL.o_neI, DL.o_eqS, DL.o_neS, DL.o_is, DL.o_isn, DL.n_non, DL.n_bl, DL.n_int, DL.n_str, DL.n_lst, DL.n_tup, DL.n_ref, DL.n_obj, DL.i_non_int, DL.i_non_bool, DL.i_non_str, DL.i_non_list, DL.i_non_tuple, DL.i_bl_int, DL.i_bl_bool, DL.i_bl_str, DL.i_bl_list, DL.i_bl_tuple, DL.i_int_int, DL.i_int_bool, DL.i_int_str, DL.i_int_list, DL.i_int_tuple, DL.i_str_int, DL.i_str_bool, DL.i_str_str, DL.i_str_list, DL.i_str_tuple, DL.i_lst_int, DL.i_lst_bool, DL.i_lst_str, DL.i_lst_list, DL.i_lst_tuple, DL.i_tup_int, DL.i_tup_bool, DL.i_tup_str, DL.i_tup_list, DL.i_tup_tuple, DL.t_non, DL.t_bl, DL.t_int, DL.t_lst, DL.t_tup, ↓DL.x_lst, ↓DL.x_tup, ↓DL.x_encP0, ↓DL.x_encP1, DL.ixn1_0, DL.ixn1_m1, DL.ixn2_0, DL.ixn2_1, DL.ixn2_m1, DL.ixn3_0, DL.ixn3_1, DL.ixn3_2, DL.ixn3_m1, DL.ixn4_0, DL.ixn4_1, DL.ixn4_2, DL.ixn4_3, DL.ixn4_m1, DL.ixn5_0, DL.ixn5_1, DL.ixn5_2, DL.ixn5_3, DL.ixn5_4, DL.ixn5_m1, DL.ixn6_0, DL.ixn6_1, DL.ixn6_2, DL.ixn6_3, DL.ixn6_4, DL.ixn6_5, DL.ixn6_m1, DL.ixn7_0, DL.ixn7_1, DL.ixn7_2, DL.ixn7_3, DL.ixn7_4, DL.ixn7_5, DL.ixn7_6, DL.ixn7_m1, DL.ixn8_0, DL.ixn8_1, DL.ixn8_2, DL.ixn8_3, DL.ixn8_4, DL.ixn8_5, DL.ixn8_6, DL.ixn8_7, DL.ixn8_m1, ↓DL.x1_0, ↓DL.x1_m1, ↓DL.x2_0, ↓DL.x2_1, ↓DL.x2_m1, ↓DL.x3_0, ↓DL.x3_1, ↓DL.x3_2, ↓DL.x3_m1, ↓DL.x4_0, ↓DL.x4_1, ↓DL.x4_2, ↓DL.x4_3, ↓DL.x4_m1, ↓DL.x5_0, ↓DL.x5_1, ↓DL.x5_2, ↓DL.x5_3, ↓DL.x5_4, ↓DL.x5_m1, ↓DL.x6_0, ↓DL.x6_1, ↓DL.x6_2, ↓DL.x6_3, ↓DL.x6_4, ↓DL.x6_5, ↓DL.x6_m1, ↓DL.x7_0, ↓DL.x7_1, ↓DL.x7_2, ↓DL.x7_3, ↓DL.x7_4, ↓DL.x7_5, ↓DL.x7_6, ↓DL.x7_m1, ↓DL.x8_0, ↓DL.x8_1, ↓DL.x8_2, ↓DL.x8_3, ↓DL.x8_4, ↓DL.x8_5, ↓DL.x8_6, ↓DL.x8_7, ↓DL.x8_m1, DL.c_abs, DL.c_max2, DL.c_min2, DL.c_int, DL.c_intb, DL.c_lenS, DL.c_lenT, DL.c_lenL, DL.c_listT, DL.c_listL, DL.c_tupT, DL.c_tupL, DL.c_sum, DL.c_sum0, DL.c_all, DL.c_any, DL.c_minP, DL.c_maxP, DL.c_sortP, DL.c_zip, DL.c_enum, DL.c_range1, DL.c_range2, DL.g_lst, DL.g_tup, DL.g_str, DL.p_int, DL.sq_lst, DL.sl_lst, DL.sl_tup, DL.sl_str, DL.slL_lst, DL.om_some, List.set_cons_zero, List.set_cons_succ, DL.m_tyL, DL.m_tyS, DL.m_ty, DL.m_app, DL.m_sto, DL.m_fzL, DL.m_fzI, DL.m_fzT, DL.m_fz, DL.x_ref, DL.c_lenR, DL.c_listR, DL.c_tupR, DL.sl_ref, DL.atL_new, DL.atL_new1, DL.atL_new2, DL.atL_old, DL.set_new, DL.set_new1, DL.set_new2, DL.set_old, DL.take_app, DL.app_app, DL.cons_app, DL.nil_app, DL.len_app1, DL.len_app2, DL.len_app3, DL.len_set, DL.seq_new, DL.seq_new1, DL.seq_new2, DL.seq_old, DL.ex_some, DL.fl_non, DL.fl_int, DL.fl_bl, DL.fl_str, DL.fl_tup, DL.fl_lst, DL.fl_obj, DL.fl_nil, DL.fl_cons, DL.fl_app, DL.fl_encP, Bool.and_self, Bool.and_true, Bool.true_and, List.set_set, ↓DL.w_yes, ↓DL.w_fld, ↓DL.w_mt, ↓DL.w_mtL, ↓DL.w_mt0, ↓DL.w_mt0L, ↓DL.w_ic, DL.isO_obj, ↓DL.w_make, ↓DL.w_b2M, ↓DL.w_b2MT, DL.c_intU, DL.c_intbU, ↓DL.w_mthL, ↓DL.w_uM, ↓DL.w_inv, ↓DL.w_bin_obj, ↓DL.w_bin_int, ↓DL.w_fldS, DL.m_fld, DL.atI_new, DL.putD, ↓DL.w_repL, ↓DL.w_isiC, ↓DL.w_par3, ↓DL.wPar3_3, DL.m_count, DL.wretL_new, DL.wret_new, ↓DL.c_setSort, DL.o_addI, DL.o_inS, DL.o_ninS, ↓DL.c_str, ↓DL.c_intSw, ↓DL.m_ext, DL.slt_l, DL.slt_t, DL.slt_r, ↓DL.c_dm, ↓DL.c_split, ↓DL.c_join, ↓DL.c_rep, ↓DL.x_str, ↓DL.o_catRL, ↓DL.o_addRL, ↓DL.wret_tup, ↓DL.wret_lst, List.take_length, List.length_cons, List.length_nil, List.length_map, Int.cast_ofNat_Int, Bool.not_true, Bool.not_false, Int.reduceAdd, Int.reduceSub, Int.reduceMul, Int.reduceNeg, Int.reduceEq, Int.reduceLT, Int.reduceLE, Nat.reduceAdd, Nat.reduceSub, eq_self, not_true_eq_false, not_false_eq_true, false_implies, implies_true, true_implies, ff_Nodes_held, ff_Program_own_nodes, fm_Program_accesses, isf_Nodes_Nodes, isf_Nodes_Program, isf_Nodes_0s, isf_Nodes_0i, isf_Nodes_0l, isf_Nodes_0t, isf_Nodes_0n, isf_Nodes_0b, isf_Program_Nodes, isf_Program_Program, isf_Program_0s, isf_Program_0i, isf_Program_0l, isf_Program_0t, isf_Program_0n, isf_Program_0b])
/-! words, programs made, reads -/
open MT MN
theorem num_def (i : Int) : Str.ofString (toString i) = num i := rfl
section
variable {S : Cells} {E : Xc → Cells → Prop} {Q : D → Cells → Prop} {QL : List D → Cells → Prop}
theorem fl_strs {l : List Str} : flatL (l.map .str) = true := fl_map fun _ _ => fl_str
theorem logS {i : Int} (h : 0 ≤ i) (h2 : i ≤ (1000000000000000000000000000000 : Int)) : i.natAbs.log2 < 1920 := logOk_le h (by omega)
theorem take_new {T S X : Cells} (h : T.take S.length = S) : (T ++ X).take S.length = S ∧ S.length ≤ T.length := by
  have hl : S.length ≤ T.length := by
    have := congrArg List.length h
    rw [List.length_take] at this
    omega
  refine ⟨?_, hl⟩
  rw [List.take_append_of_le_length hl]
  exact h
theorem take_set {T S : Cells} {f : Nat} {c : Cell} (h : T.take S.length = S) (hf : S.length ≤ f) : (T.set f c).take S.length = S := by
  rw [List.take_set_of_le hf]
  exact h
theorem words_step {w h : Int} (hw : w ≤ (1000000000000000000000000000000 : Int) + 1) (hh : h ≤ (1000000000000000000000000000000 : Int)) (n : Nat) (ih : ∀ l, dps l < n → oks w h l → (wdss l).length ≤ 100000 → ∀ S, g__law_words n [.lst (l.map eL)] S = .ok (.lst ((wdss l).map .str)) S)
    (l : List Nd) (hl : dps l ≤ n) (hk : oks w h l) (hb : (wdss l).length ≤ 100000) (S : Cells) : g__law_words (n + 1) [.lst (l.map eL)] S = .ok (.lst ((wdss l).map .str)) S := by
  have zz := z24
  refine wp_ok ?_
  rw [show g__law_words (n + 1) = bodyD 3 (B__law_words (g__law_words n)) from rfl]
  push_cast [B__law_words]
  refine for_st (σ := Cells × Nat × List Nd × Option D) eL (fun σ => [some (.lst (l.map eL)), some (.ref σ.2.1), σ.2.2.2]) (fun σ => σ.1) (fun σ r => l = σ.2.2.1 ++ r ∧ σ.1.take S.length = S ∧ S.length ≤ σ.2.1 ∧ σ.1[σ.2.1]? = some ⟨true, .lst ((wdss σ.2.2.1).map .str)⟩) l (S ++ [⟨true, .lst []⟩], S.length, [], none) ⟨rfl, take_app rfl, Nat.le_refl _, by rw [wdss]; simp⟩ ?_ ?_ rfl rfl
  · rintro ⟨T, f, l1, x2⟩ m r ⟨e, hT, hf, hc⟩
    simp only at e hT hf hc
    have hm : m ∈ l := by rw [e]; simp
    have ho := ok_mem hk hm
    have hdm := dp_mem hm
    have hl1 : (wdss l).length = (wdss l1).length + ((wds m).length + (wdss r).length) := by rw [e, wdss_app, wdss, List.length_append, List.length_append]
    cases m with
    | sc a b =>
      rw [ok] at ho
      rw [wds] at hl1
      simp only [List.length_singleton] at hl1
      have ha := logS (i := a) (by omega) (by omega)
      have hb2 := logS (i := b) (by omega) (by omega)
      have na := num_len (i := a) (k := 31) (by omega) (by decide) (by omega)
      have nb := num_len (i := b) (k := 31) (by omega) (by decide) (by omega)
      push_cast [L1__law_words, eL_sc, s_sa, seq_at hc, num_def, ex_some, atL_of hc, e_dash]
      have fin : ∀ y : Str, y = wd a b → ∃ s' : Cells × Nat × List Nd × Option D, [some (D.lst (l.map eL)), some (D.ref f), some (D.tup [.str "scan", .int a, .int b])] = [some (D.lst (l.map eL)), some (D.ref s'.2.1), s'.2.2.2] ∧ T.set f ⟨true, .lst ((wdss l1).map .str ++ [.str y])⟩ = s'.1 ∧ l = s'.2.2.1 ++ r ∧ s'.1.take S.length = S ∧ S.length ≤ s'.2.1 ∧ s'.1[s'.2.1]? = some ⟨true, .lst ((wdss s'.2.2.1).map .str)⟩ := fun y hy =>
        ⟨(_, f, l1 ++ [.sc a b], some (D.tup [.str "scan", .int a, .int b])), rfl, rfl, by rw [e, List.append_assoc]; rfl, take_set hT hf, hf, by
          have hfl : f < T.length := (List.getElem?_eq_some_iff.mp hc).1
          simp only
          rw [List.getElem?_set_self hfl, wdss_app, wdss_one, wds, List.map_append, hy]
          rfl⟩
      have e45 : (ch 45).length = 1 := rfl
      have e0 : (("" : Str)).length = 0 := by decide +kernel
      have enil : ∀ x : Str, x ++ ("" : Str) = x := fun x => ext (by rw [L_app, L_nil, List.append_nil])
      refine ⟨ha, fun hab => ⟨by omega, by omega, fin _ ?_⟩, fun hab => ⟨hb2, by omega, ?_, by omega, fin _ ?_⟩⟩
      · rw [enil, wd, if_pos hab]
      · rw [Str.length_append]
        omega
      · rw [wd, if_neg hab, Str.append_assoc]
    | rp l2 t =>
      rw [dp] at hdm
      rw [ok] at ho
      rw [wds] at hl1
      simp only [List.length_append, List.length_cons, List.length_nil] at hl1
      have ht := logS (i := t) (by omega) (by omega)
      have nt := num_len (i := t) (k := 31) (by omega) (by decide) (by omega)
      push_cast [L1__law_words, eL_rp, seq_at hc, num_def, ih l2 (by omega) ho.2.2 (by omega), e_rap, e_par, fl_strs, List.length_map]
      have e41 : (ch 41).length = 1 := rfl
      obtain ⟨t1, t2⟩ := take_new (X := [⟨true, .lst (List.map D.str (wdss l1) ++ [D.str (ch 40)] ++ List.map D.str (wdss l2) ++ [D.str (ch 41 ++ num t)])⟩]) hT
      refine ⟨by omega, by simp only [List.length_append, List.length_map, List.length_cons, List.length_nil]; omega, ht, by omega, by simp only [List.length_append, List.length_map, List.length_cons, List.length_nil]; omega,
        (_, T.length, l1 ++ [.rp l2 t], some (eL (.rp l2 t))), by simp only [eL_rp], rfl, by rw [e, List.append_assoc]; rfl, t1, t2, ?_⟩
      simp only
      rw [wdss_app, wdss_one, wds]
      simp
  · rintro ⟨T, f, l1, x2⟩ ⟨e, hT, hf, hc⟩
    simp only [List.append_nil] at e hT hf hc
    subst e
    push_cast [wret_ref hf hc]
    exact hT
theorem words_ok {w h : Int} (hw : w ≤ (1000000000000000000000000000000 : Int) + 1) (hh : h ≤ (1000000000000000000000000000000 : Int)) : ∀ n l, dps l < n → oks w h l → (wdss l).length ≤ 100000 → ∀ S, g__law_words n [.lst (l.map eL)] S = .ok (.lst ((wdss l).map .str)) S := by
  intro n
  induction n with
  | zero => intro l hl; omega
  | succ n ih => intro l hl hk hb S; exact words_step hw hh n ih l (by omega) hk hb S
theorem made_ok {w h : Int} {l : List Nd} (g : PG w h l) (hs : (scss l).length ≤ 40) : g__law_made [.lst (l.map eL)] S = .ok (prog l) S := by
  have hd := g.d
  have hws := wds_ok (dps l) l (Nat.le_refl _) g.k g.hw g.hh
  have hl := wdss_len (dps l) l (Nat.le_refl _) g.k
  have hl2 : 3 ^ dps l * (scss l).length ≤ 3 ^ 5 * 40 := Nat.mul_le_mul (Nat.pow_le_pow_right (by decide) hd) hs
  obtain ⟨t1, t2⟩ := text_len (fun x hx => (hws x hx).1) (show (wdss l).length ≤ 100000 by omega)
  have zz := z24
  have ej : Txt.join (ch 32) (wdss l) = Str.join (ch 32) (wdss l) := StrLaws.glued_eq_join _ _
  have e32 : (ch 32).length = 1 := rfl
  refine wp_ok ?_
  push_cast [g__law_made, B__law_made, words_ok g.hw g.hh 8 l (by omega) g.k (by omega), e_gap, ej, made_prog g hs, wret_flat (fl_prog g)]
  rw [e32]
  exact ⟨by omega, by omega⟩
theorem reads_step {w h : Int} (hh : h ≤ (1000000000000000000000000000000 : Int)) (n : Nat) (ih : ∀ l, dps l < n → oks w h l → lens l ≤ 100000 → ∀ S, g__law_reads n [.lst (l.map eL)] S = .ok ((rdss l).map .int) S)
    (l : List Nd) (hl : dps l ≤ n) (hk : oks w h l) (hb : lens l ≤ 100000) (S : Cells) : g__law_reads (n + 1) [.lst (l.map eL)] S = .ok ((rdss l).map .int) S := by
  have zz := z24
  refine wp_ok ?_
  rw [show g__law_reads (n + 1) = bodyL 5 (B__law_reads (g__law_reads n)) from rfl]
  push_cast [B__law_reads]
  refine for_st (σ := Cells × Nat × List Nd × Option D × Option D × Option D) eL (fun σ => [some (.lst (l.map eL)), some (.ref σ.2.1), σ.2.2.2.1, σ.2.2.2.2.1, σ.2.2.2.2.2]) (fun σ => σ.1) (fun σ r => l = σ.2.2.1 ++ r ∧ σ.1.take S.length = S ∧ S.length ≤ σ.2.1 ∧ σ.1[σ.2.1]? = some ⟨true, .lst ((rdss σ.2.2.1).map .int)⟩) l (S ++ [⟨true, .lst []⟩], S.length, [], none, none, none) ⟨rfl, take_app rfl, Nat.le_refl _, by rw [rdss]; simp⟩ ?_ ?_ rfl rfl
  · rintro ⟨T, f, l1, x2, x3, x4⟩ m r ⟨e, hT, hf, hc⟩
    simp only at e hT hf hc
    have hm : m ∈ l := by rw [e]; simp
    have ho := ok_mem hk hm
    have hdm := dp_mem hm
    have hlm := len_mem hk hm
    have hlen := rdss_len (dps l) l (Nat.le_refl _) hk
    have hl1 : (rdss l).length = (rdss l1).length + ((rds m).length + (rdss r).length) := by rw [e, rdss_app, rdss, List.length_append, List.length_append]
    have fin : ∀ y : List D, y = (rds m).map .int → ∀ x2 x3 x4 : Option D, ∃ s' : Cells × Nat × List Nd × Option D × Option D × Option D, [some (D.lst (l.map eL)), some (D.ref T.length), x2, x3, x4] = [some (D.lst (l.map eL)), some (D.ref s'.2.1), s'.2.2.2.1, s'.2.2.2.2.1, s'.2.2.2.2.2] ∧ T ++ [⟨true, .lst ((rdss l1).map .int ++ y)⟩] = s'.1 ∧ l = s'.2.2.1 ++ r ∧ s'.1.take S.length = S ∧ S.length ≤ s'.2.1 ∧ s'.1[s'.2.1]? = some ⟨true, .lst ((rdss s'.2.2.1).map .int)⟩ := fun y hy x2 x3 x4 => by
      obtain ⟨t1, t2⟩ := take_new (X := [⟨true, .lst ((rdss l1).map .int ++ y)⟩]) hT
      exact ⟨(_, T.length, l1 ++ [m], x2, x3, x4), rfl, rfl, by rw [e, List.append_assoc]; rfl, t1, t2, by simp only; rw [rdss_app, rdss_one, List.map_append, hy]; simp⟩
    cases m with
    | sc a b =>
      have hs := scn_len (a := a) (b := b)
      have hp := sz_pos (a := a) (b := b)
      rw [len] at hlm
      rw [rds] at hl1 fin
      push_cast [L1__law_reads, eL_sc, s_sa]
      rw [show ((if b - a < 0 then -(b - a) else b - a) + 1) = sz a b from rfl]
      refine ⟨fun hab => ?_, fun hab => ?_⟩
      · have es : stp a b = 1 := if_pos hab
        push_cast [w_rangeI (show 0 ≤ sz a b by omega) (show sz a b ≤ (sizeLine : Nat) by omega)]
        refine comp_map_wp (fun k : Nat => D.int k) (fun k : Nat => .int (a + stp a b * k)) (List.range (sz a b).toNat) (fun k hk => ?_) ?_
        · have := List.mem_range.mp hk
          have hm := okMul_stp (a := a) (b := b) (show k ≤ 1000000 by omega)
          rw [es] at hm
          unfold cStep
          push_cast [hm, es]
        rw [show (List.range (sz a b).toNat).map (fun k : Nat => D.int (a + stp a b * k)) = (scn a b).map .int by unfold scn; rw [List.map_map]; rfl]
        push_cast [seq_at hc, fl_ints, List.length_map]
        exact ⟨by omega, fin _ rfl _ _ _⟩
      · have es : stp a b = -1 := if_neg hab
        push_cast [w_rangeI (show 0 ≤ sz a b by omega) (show sz a b ≤ (sizeLine : Nat) by omega)]
        refine comp_map_wp (fun k : Nat => D.int k) (fun k : Nat => .int (a + stp a b * k)) (List.range (sz a b).toNat) (fun k hk => ?_) ?_
        · have := List.mem_range.mp hk
          have hm := okMul_stp (a := a) (b := b) (show k ≤ 1000000 by omega)
          rw [es] at hm
          unfold cStep
          push_cast [hm, es]
        rw [show (List.range (sz a b).toNat).map (fun k : Nat => D.int (a + stp a b * k)) = (scn a b).map .int by unfold scn; rw [List.map_map]; rfl]
        push_cast [seq_at hc, fl_ints, List.length_map]
        exact ⟨by omega, fin _ rfl _ _ _⟩
    | rp l2 t =>
      rw [dp] at hdm
      have hle := len_rp_le ho
      rw [ok] at ho
      have hlen2 := rdss_len (dps l2) l2 (Nat.le_refl _) ho.2.2
      have hp := len_one_pos (dps l2) l2 (Nat.le_refl _) ho.2.2 ho.1
      rw [len] at hlm hle
      rw [rds, len_flat] at hl1
      rw [rds] at fin
      have ht : t ≤ 100000 := by
        have := Int.mul_le_mul_of_nonneg_right hp (show 0 ≤ t by omega)
        omega
      have hmul : t.toNat * (rdss l2).length ≤ 100000 := by omega
      push_cast [L1__law_reads, eL_rp, ih l2 (by omega) ho.2.2 (by omega), seq_at hc, fl_ints, flatL_rep, len_flat, List.length_map]
      refine ⟨⟨⟨by omega, by omega⟩, by rw [Nat.mul_comm]; omega⟩, by omega, by simp, fin _ ?_ _ _ _⟩
      rw [List.map_flatten, List.map_replicate]
  · rintro ⟨T, f, l1, x2, x3, x4⟩ ⟨e, hT, hf, hc⟩
    simp only [List.append_nil] at e hT hf hc
    subst e
    push_cast
    refine wretL_ref hf hc ⟨rfl, hT⟩
theorem reads_ok {w h : Int} (hh : h ≤ (1000000000000000000000000000000 : Int)) : ∀ n l, dps l < n → oks w h l → lens l ≤ 100000 → ∀ S, g__law_reads n [.lst (l.map eL)] S = .ok ((rdss l).map .int) S := by
  intro n
  induction n with
  | zero => intro l hl; omega
  | succ n ih => intro l hl hk hb S; exact reads_step hh n ih l (by omega) hk hb S
end

end K26
end
section
set_option maxHeartbeats 4000000
set_option exponentiation.threshold 3000
namespace K26
open PySem PySem.Spec L2 DL
open PyProof.Rows hiding St
open Lean in
local macro_rules | `(tactic| push_cast [$ts,*]) => `(tactic| simp only [↓DL.r0, ↓DL.r1, ↓DL.r2, ↓DL.r3, ↓DL.r4, ↓DL.r5, ↓DL.r6, ↓DL.r7, ↓DL.r8, ↓DL.r9, ↓DL.r10, ↓DL.r11, ↓DL.r12, ↓DL.r13, ↓DL.r14, ↓DL.r15, ↓DL.r16, ↓DL.r17, ↓DL.r18, ↓DL.r19, ↓DL.r20, ↓DL.r21, ↓DL.r22, ↓DL.r23, ↓DL.r24, ↓DL.r25, ↓DL.r26, ↓DL.r27, ↓DL.r28, ↓DL.r29, DL.s0, DL.s1, DL.s2, DL.s3, DL.s4, DL.s5, DL.s6, DL.s7, DL.s8, DL.s9, DL.s10, DL.s11, DL.s12, DL.s13, DL.s14, DL.s15, DL.s16, DL.s17, DL.s18, DL.s19, DL.s20, DL.s21, DL.s22, DL.s23, DL.s24, DL.s25, DL.s26, DL.s27, DL.s28, DL.s29, DL.startD_cons, DL.startD_nil, DL.startD_zero, ↓DL.w_ok, ↓DL.w_some, ↓DL.w_somec, ↓DL.w_bind, ↓DL.w_opt, ↓DL.w_chg, ↓DL.w_kon, ↓DL.w_calm, ↓DL.w_b2, ↓DL.w_b2L, ↓DL.w_b1, ↓DL.wB_bl, ↓DL.w_asB, ↓DL.w_b2T, ↓DL.w_chE, ↓DL.w_chT, ↓DL.w_not, ↓DL.w_val, ↓DL.w_notE, ↓DL.w_ifE, ↓DL.w_ifL, ↓DL.w_andM, ↓DL.w_orM, ↓DL.w_andE, ↓DL.w_orE, ↓DL.w_nil, ↓DL.w_cons, ↓DL.w_tup, ↓DL.w_lst, ↓DL.w_frz, ↓DL.w_new, ↓DL.w_cel, ↓DL.w_cb, ↓DL.w_cbL, ↓DL.w_call, ↓DL.w_callL, ↓DL.w_ar0, ↓DL.w_ar1, ↓DL.w_ar2, ↓DL.w_ar3, ↓DL.w_ar4, ↓DL.w_ar5, ↓DL.w_ar6, ↓DL.w_noO, ↓DL.w_smO, ↓DL.w_sl, ↓DL.w_slL, ↓DL.w_rev, ↓DL.w_step, ↓DL.w_isi, ↓DL.w_sets, ↓DL.w_lrg, ↓DL.w_mth, ↓DL.w_mth0, ↓DL.w_itS, ↓DL.w_itR1, ↓DL.w_itR2, ↓DL.w_itR3, ↓DL.w_itZ, ↓DL.w_itN, ↓DL.w_lc, ↓DL.w_nx, ↓DL.w_rt, ↓DL.w_seq, ↓DL.w_set, ↓DL.wPar_2, ↓DL.w_par, ↓DL.w_aug, ↓DL.w_sto, ↓DL.w_exp, ↓DL.w_ret, ↓DL.w_retN, ↓DL.w_nxS, ↓DL.w_ifS, ↓DL.w_for, ↓DL.w_asg, ↓DL.w_stk, ↓DL.w_body, ↓DL.w_bodyL, ↓DL.wret_non, ↓DL.wret_bl, ↓DL.wret_int, ↓DL.wret_str, ↓DL.wif_t, ↓DL.wif_f, ↓DL.wif_d, ↓DL.wif_n, ↓DL.wif_a, ↓DL.wif_o, DL.few0, DL.few1, DL.few2, DL.few3, DL.few4, DL.few5, DL.few6, DL.few7, DL.few8, DL.few9, DL.few10, true_and, and_true, ↓DL.a_nm, ↓DL.a_tp1, ↓DL.a_tp2, ↓DL.a_tp3, ↓DL.a_tp4, ↓DL.a_tp5, ↓DL.a_tpn, ↓DL.a_tpm, ↓DL.a_encP, DL.wipe_nil, DL.wipe_cons, DL.o_add, DL.o_sub, DL.o_neg, ↓DL.o_mul, ↓DL.o_div, ↓DL.o_mod, DL.o_pow, ↓DL.o_p10_3, ↓DL.o_p10_4, ↓DL.o_p10_6, ↓DL.o_p10_8, ↓DL.o_p10_9, ↓DL.o_p10_12, ↓DL.o_p10_15, ↓DL.o_p10_18, ↓DL.o_p10_20, ↓DL.o_p10_25, ↓DL.o_p10_26, ↓DL.o_p10_27, ↓DL.o_p10_28, ↓DL.o_p10_29, ↓DL.o_p10_30, ↓DL.o_p10_31, ↓DL.o_p10_36, ↓DL.o_p10_38, ↓DL.o_p10_40, ↓DL.o_p10_42, ↓DL.o_p10_44, ↓DL.o_p10_46, ↓DL.o_p10_48, ↓DL.o_p10_50, ↓DL.o_p10_60, ↓DL.o_p10_64, ↓DL.o_p10_70, ↓DL.o_p10_90, ↓DL.o_p10_99, ↓DL.o_p10_100, ↓DL.o_addS, ↓DL.o_addT, ↓DL.o_catL, ↓DL.o_addL, DL.o_lt, DL.o_le, DL.o_gt, DL.o_ge, DL.o_eqI, DL.o_neI, DL.o_eqS, DL.o_neS, DL.o_is, DL.o_isn, DL.n_non, DL.n_bl, DL.n_int, DL.n_str, DL.n_lst, DL.n_tup, DL.n_ref, DL.n_obj, DL.i_non_int, DL.i_non_bool, DL.i_non_str, DL.i_non_list, DL.i_non_tuple, DL.i_bl_int, DL.i_bl_bool, DL.i_bl_str, DL.i_bl_list, DL.i_bl_tuple, DL.i_int_int, DL.i_int_bool, DL.i_int_str, DL.i_int_list, DL.i_int_tuple, DL.i_str_int, DL.i_str_bool, DL.i_str_str, DL.i_str_list, DL.i_str_tuple, DL.i_lst_int, DL.i_lst_bool, DL.i_lst_str, DL.i_lst_list, DL.i_lst_tuple, DL.i_tup_int, DL.i_tup_bool, DL.i_tup_str, DL.i_tup_list, DL.i_tup_tuple, DL.t_non, DL.t_bl, DL.t_int, DL.t_lst, DL.t_tup, ↓DL.x_lst, ↓DL.x_tup, ↓DL.x_encP0, ↓DL.x_encP1, DL.ixn1_0, DL.ixn1_m1, DL.ixn2_0, DL.ixn2_1, DL.ixn2_m1, DL.ixn3_0, DL.ixn3_1, DL.ixn3_2, DL.ixn3_m1, DL.ixn4_0, DL.ixn4_1, DL.ixn4_2, DL.ixn4_3, DL.ixn4_m1, DL.ixn5_0, DL.ixn5_1, DL.ixn5_2, DL.ixn5_3, DL.ixn5_4, DL.ixn5_m1, DL.ixn6_0, DL.ixn6_1, DL.ixn6_2, DL.ixn6_3, DL.ixn6_4, DL.ixn6_5, DL.ixn6_m1, DL.ixn7_0, DL.ixn7_1, DL.ixn7_2, DL.ixn7_3, DL.ixn7_4, DL.ixn7_5, DL.ixn7_6, DL.ixn7_m1, DL.ixn8_0, DL.ixn8_1, DL.ixn8_2, DL.ixn8_3, DL.ixn8_4, DL.ixn8_5, DL.ixn8_6, DL.ixn8_7, DL.ixn8_m1, ↓DL.x1_0, ↓DL.x1_m1, ↓DL.x2_0, ↓DL.x2_1, ↓DL.x2_m1, ↓DL.x3_0, ↓DL.x3_1, ↓DL.x3_2, ↓DL.x3_m1, ↓DL.x4_0, ↓DL.x4_1, ↓DL.x4_2, ↓DL.x4_3, ↓DL.x4_m1, ↓DL.x5_0, ↓DL.x5_1, ↓DL.x5_2, ↓DL.x5_3, ↓DL.x5_4, ↓DL.x5_m1, ↓DL.x6_0, ↓DL.x6_1, ↓DL.x6_2, ↓DL.x6_3, ↓DL.x6_4, ↓DL.x6_5, ↓DL.x6_m1, ↓DL.x7_0, ↓DL.x7_1, ↓DL.x7_2, ↓DL.x7_3, ↓DL.x7_4, ↓DL.x7_5, ↓DL.x7_6, ↓DL.x7_m1, ↓DL.x8_0, ↓DL.x8_1, ↓DL.x8_2, ↓DL.x8_3, ↓DL.x8_4, ↓DL.x8_5, ↓DL.x8_6, ↓DL.x8_7, ↓DL.x8_m1, DL.c_abs, DL.c_max2, DL.c_min2, DL.c_int, DL.c_intb, DL.c_lenS, DL.c_lenT, DL.c_lenL, DL.c_listT, DL.c_listL, DL.c_tupT, DL.c_tupL, DL.c_sum, DL.c_sum0, DL.c_all, DL.c_any, DL.c_minP, DL.c_maxP, DL.c_sortP, DL.c_zip, DL.c_enum, DL.c_range1, DL.c_range2, DL.g_lst, DL.g_tup, DL.g_str, DL.p_int, DL.sq_lst, DL.sl_lst, DL.sl_tup, DL.sl_str, DL.slL_lst, DL.om_some, List.set_cons_zero, List.set_cons_succ, DL.m_tyL, DL.m_tyS, DL.m_ty, DL.m_app, DL.m_sto, DL.m_fzL, DL.m_fzI, DL.m_fzT, DL.m_fz, DL.x_ref, DL.c_lenR, DL.c_listR, DL.c_tupR, DL.sl_ref, DL.atL_new, DL.atL_new1, DL.atL_new2, DL.atL_old, DL.set_new, DL.set_new1, DL.set_new2, DL.set_old, DL.take_app, DL.app_app, DL.cons_app, DL.nil_app, DL.len_app1, DL.len_app2, DL.len_app3, DL.len_set, DL.seq_new, DL.seq_new1, DL.seq_new2, DL.seq_old, DL.ex_some, DL.fl_non, DL.fl_int, DL.fl_bl, DL.fl_str, DL.fl_tup, DL.fl_lst, DL.fl_obj, DL.fl_nil, DL.fl_cons, DL.fl_app, DL.fl_encP, Bool.and_self, Bool.and_true, Bool.true_and, List.set_set, ↓DL.w_yes, ↓DL.w_fld, ↓DL.w_mt, ↓DL.w_mtL, ↓DL.w_mt0, ↓DL.w_mt0L, ↓DL.w_ic, DL.isO_obj, ↓DL.w_make, ↓DL.w_b2M, ↓DL.w_b2MT, DL.c_intU, DL.c_intbU, ↓DL.w_mthL, ↓DL.w_uM, ↓DL.w_inv, ↓DL.w_bin_obj, ↓DL.w_bin_int, ↓DL.w_fldS, DL.m_fld, DL.atI_new, DL.putD, ↓DL.w_repL, ↓DL.w_isiC, ↓DL.w_par3, ↓DL.wPar3_3, DL.m_count, DL.wretL_new, DL.wret_new, ↓DL.c_setSort, DL.o_addI, DL.o_inS, DL.o_ninS, ↓DL.c_str, ↓DL.c_intSw, ↓DL.m_ext, DL.slt_l, DL.slt_t, DL.slt_r, ↓DL.c_dm, ↓DL.c_split, ↓DL.c_join, ↓DL.c_rep, ↓DL.x_str, ↓DL.o_catRL, ↓DL.o_addRL, ↓DL.wret_tup, ↓DL.wret_lst, List.take_length, List.length_cons, List.length_nil, List.length_map, Int.cast_ofNat_Int, Bool.not_true, Bool.not_false, Int.reduceAdd, Int.reduceSub, Int.reduceMul, Int.reduceNeg, Int.reduceEq, Int.reduceLT, Int.reduceLE, Nat.reduceAdd, Nat.reduceSub, eq_self, not_true_eq_false, not_false_eq_true, false_implies, implies_true, true_implies, ff_Nodes_held, ff_Program_own_nodes, fm_Program_accesses, isf_Nodes_Nodes, isf_Nodes_Program, isf_Nodes_0s, isf_Nodes_0i, isf_Nodes_0l, isf_Nodes_0t, isf_Nodes_0n, isf_Nodes_0b, isf_Program_Nodes, isf_Program_Program, isf_Program_0s, isf_Program_0i, isf_Program_0l, isf_Program_0t, isf_Program_0n, isf_Program_0b, $ts,*])
open Lean in
local macro_rules | `(tactic| push_cast) => `(tactic| simp only [↓DL.r0, ↓DL.r1, ↓DL.r2, ↓DL.r3, ↓DL.r4, ↓DL.r5, ↓DL.r6, ↓DL.r7, ↓DL.r8, ↓DL.r9, ↓DL.r10, ↓DL.r11, ↓DL.r12, ↓DL.r13, ↓DL.r14, ↓DL.r15, ↓DL.r16, ↓DL.r17, ↓DL.r18, ↓DL.r19, ↓DL.r20, ↓DL.r21, ↓DL.r22, ↓DL.r23, ↓DL.r24, ↓DL.r25, ↓DL.r26, ↓DL.r27, ↓DL.r28, ↓DL.r29, DL.s0, DL.s1, DL.s2, DL.s3, DL.s4, DL.s5, DL.s6, DL.s7, DL.s8, DL.s9, DL.s10, DL.s11, DL.s12, DL.s13, DL.s14, DL.s15, DL.s16, DL.s17, DL.s18, DL.s19, DL.s20, DL.s21, DL.s22, DL.s23, DL.s24, DL.s25, DL.s26, DL.s27, DL.s28, DL.s29, DL.startD_cons, DL.startD_nil, DL.startD_zero, ↓DL.w_ok, ↓DL.w_some, ↓DL.w_somec, ↓DL.w_bind, ↓DL.w_opt, ↓DL.w_chg, ↓DL.w_kon, ↓DL.w_calm, ↓DL.w_b2, ↓DL.w_b2L, ↓DL.w_b1, ↓DL.wB_bl, ↓DL.w_asB, ↓DL.w_b2T, ↓DL.w_chE, ↓DL.w_chT, ↓DL.w_not, ↓DL.w_val, ↓DL.w_notE, ↓DL.w_ifE, ↓DL.w_ifL, ↓DL.w_andM, ↓DL.w_orM, ↓DL.w_andE, ↓DL.w_orE, ↓DL.w_nil, ↓DL.w_cons, ↓DL.w_tup, ↓DL.w_lst, ↓DL.w_frz, ↓DL.w_new, ↓DL.w_cel, ↓DL.w_cb, ↓DL.w_cbL, ↓DL.w_call, ↓DL.w_callL, ↓DL.w_ar0, ↓DL.w_ar1, ↓DL.w_ar2, ↓DL.w_ar3, ↓DL.w_ar4, ↓DL.w_ar5, ↓DL.w_ar6, ↓DL.w_noO, ↓DL.w_smO, ↓DL.w_sl, ↓DL.w_slL, ↓DL.w_rev, ↓DL.w_step, ↓DL.w_isi, ↓DL.w_sets, ↓DL.w_lrg, ↓DL.w_mth, ↓DL.w_mth0, ↓DL.w_itS, ↓DL.w_itR1, ↓DL.w_itR2, ↓DL.w_itR3, ↓DL.w_itZ, ↓DL.w_itN, ↓DL.w_lc, ↓DL.w_nx, ↓DL.w_rt, ↓DL.w_seq, ↓DL.w_set, ↓DL.wPar_2, ↓DL.w_par, ↓DL.w_aug, ↓DL.w_sto, ↓DL.w_exp, ↓DL.w_ret, ↓DL.w_retN, ↓DL.w_nxS, ↓DL.w_ifS, ↓DL.w_for, ↓DL.w_asg, ↓DL.w_stk, ↓DL.w_body, ↓DL.w_bodyL, ↓DL.wret_non, ↓DL.wret_bl, ↓DL.wret_int, ↓DL.wret_str, ↓DL.wif_t, ↓DL.wif_f, ↓DL.wif_d, ↓DL.wif_n, ↓DL.wif_a, ↓DL.wif_o, DL.few0, DL.few1, DL.few2, DL.few3, DL.few4, DL.few5, DL.few6, DL.few7, DL.few8, DL.few9, DL.few10, true_and, and_true, ↓DL.a_nm, ↓DL.a_tp1, ↓DL.a_tp2, ↓DL.a_tp3, ↓DL.a_tp4, ↓DL.a_tp5, ↓DL.a_tpn, ↓DL.a_tpm, ↓DL.a_encP, DL.wipe_nil, DL.wipe_cons, DL.o_add, DL.o_sub, DL.o_neg, ↓DL.o_mul, ↓DL.o_div, ↓DL.o_mod, DL.o_pow, ↓DL.o_p10_3, ↓DL.o_p10_4, ↓DL.o_p10_6, ↓DL.o_p10_8, ↓DL.o_p10_9, ↓DL.o_p10_12, ↓DL.o_p10_15, ↓DL.o_p10_18, ↓DL.o_p10_20, ↓DL.o_p10_25, ↓DL.o_p10_26, ↓DL.o_p10_27, ↓DL.o_p10_28, ↓DL.o_p10_29, ↓DL.o_p10_30, ↓DL.o_p10_31, ↓DL.o_p10_36, ↓DL.o_p10_38, ↓DL.o_p10_40, ↓DL.o_p10_42, ↓DL.o_p10_44, ↓DL.o_p10_46, ↓DL.o_p10_48, ↓DL.o_p10_50, ↓DL.o_p10_60, ↓DL.o_p10_64, ↓DL.o_p10_70, ↓DL.o_p10_90, ↓DL.o_p10_99, ↓DL.o_p10_100, ↓DL.o_addS, ↓DL.o_addT, ↓DL.o_catL, ↓DL.o_addL, DL.o_lt, DL.o_le, DL.o_gt, DL.o_ge, DL.o_eqI, DL.o_neI, DL.o_eqS, DL.o_neS, DL.o_is, DL.o_isn, DL.n_non, DL.n_bl, DL.n_int, DL.n_str, DL.n_lst, DL.n_tup, DL.n_ref, DL.n_obj, DL.i_non_int, DL.i_non_bool, DL.i_non_str, DL.i_non_list, DL.i_non_tuple, DL.i_bl_int, DL.i_bl_bool, DL.i_bl_str, DL.i_bl_list, DL.i_bl_tuple, DL.i_int_int, DL.i_int_bool, DL.i_int_str, DL.i_int_list, DL.i_int_tuple, DL.i_str_int, DL.i_str_bool, DL.i_str_str, DL.i_str_list, DL.i_str_tuple, DL.i_lst_int, DL.i_lst_bool, DL.i_lst_str, DL.i_lst_list, DL.i_lst_tuple, DL.i_tup_int, DL.i_tup_bool, DL.i_tup_str, DL.i_tup_list, DL.i_tup_tuple, DL.t_non, DL.t_bl, DL.t_int, DL.t_lst, DL.t_tup, ↓DL.x_lst, ↓DL.x_tup, ↓DL.x_encP0, ↓DL.x_encP1, DL.ixn1_0, DL.ixn1_m1, DL.ixn2_0, DL.ixn2_1, DL.ixn2_m1, DL.ixn3_0, DL.ixn3_1, DL.ixn3_2, DL.ixn3_m1, DL.ixn4_0, DL.ixn4_1, DL.ixn4_2, DL.ixn4_3, DL.ixn4_m1, DL.ixn5_0, DL.ixn5_1, DL.ixn5_2, DL.ixn5_3, DL.ixn5_4, DL.ixn5_m1, DL.ixn6_0, DL.ixn6_1, DL.ixn6_2, DL.ixn6_3, DL.ixn6_4, DL.ixn6_5, DL.ixn6_m1, DL.ixn7_0, DL.ixn7_1, DL.ixn7_2, DL.ixn7_3, DL.ixn7_4, DL.ixn7_5, DL.ixn7_6, DL.ixn7_m1, DL.ixn8_0, DL.ixn8_1, DL.ixn8_2, DL.ixn8_3, DL.ixn8_4, DL.ixn8_5, DL.ixn8_6, DL.ixn8_7, DL.ixn8_m1, ↓DL.x1_0, ↓DL.x1_m1, ↓DL.x2_0, ↓DL.x2_1, ↓DL.x2_m1, ↓DL.x3_0, ↓DL.x3_1, ↓DL.x3_2, ↓DL.x3_m1, ↓DL.x4_0, ↓DL.x4_1, ↓DL.x4_2, ↓DL.x4_3, ↓DL.x4_m1, ↓DL.x5_0, ↓DL.x5_1, ↓DL.x5_2, ↓DL.x5_3, ↓DL.x5_4, ↓DL.x5_m1, ↓DL.x6_0, ↓DL.x6_1, ↓DL.x6_2, ↓DL.x6_3, ↓DL.x6_4, ↓DL.x6_5, ↓DL.x6_m1, ↓DL.x7_0, ↓DL.x7_1, ↓DL.x7_2, ↓DL.x7_3, ↓DL.x7_4, ↓DL.x7_5, ↓DL.x7_6, ↓DL.x7_m1, ↓DL.x8_0, ↓DL.x8_1, ↓DL.x8_2, ↓DL.x8_3, ↓DL.x8_4, ↓DL.x8_5, ↓DL.x8_6, ↓DL.x8_7, ↓DL.x8_m1, DL.c_abs, DL.c_max2, DL.c_min2, DL.c_int, DL.c_intb, DL.c_lenS, DL.c_lenT, DL.c_lenL, DL.c_listT, DL.c_listL, DL.c_tupT, DL.c_tupL, DL.c_sum, DL.c_sum0, DL.c_all, DL.c_any, DL.c_minP, DL.c_maxP, DL.c_sortP, DL.c_zip, DL.c_enum, DL.c_range1, DL.c_range2, DL.g_lst, DL.g_tup, DL.g_str, DL.p_int, DL.sq_lst, DL.sl_lst, DL.sl_tup, DL.sl_str, DL.slL_lst, DL.om_some, List.set_cons_zero, List.set_cons_succ, DL.m_tyL, DL.m_tyS, DL.m_ty, DL.m_app, DL.m_sto, DL.m_fzL, DL.m_fzI, DL.m_fzT, DL.m_fz, DL.x_ref, DL.c_lenR, DL.c_listR, DL.c_tupR, DL.sl_ref, DL.atL_new, DL.atL_new1, DL.atL_new2, DL.atL_old, DL.set_new, DL.set_new1, DL.set_new2, DL.set_old, DL.take_app, DL.app_app, DL.cons_app, DL.nil_app, DL.len_app1, DL.len_app2, DL.len_app3, DL.len_set, DL.seq_new, DL.seq_new1, DL.seq_new2, DL.seq_old, DL.ex_some, DL.fl_non, DL.fl_int, DL.fl_bl, DL.fl_str, DL.fl_tup, DL.fl_lst, DL.fl_obj, DL.fl_nil, DL.fl_cons, DL.fl_app, DL.fl_encP, Bool.and_self, Bool.and_true, Bool.true_and, List.set_set, ↓DL.w_yes, ↓DL.w_fld, ↓DL.w_mt, ↓DL.w_mtL, ↓DL.w_mt0, ↓DL.w_mt0L, ↓DL.w_ic, DL.isO_obj, ↓DL.w_make, ↓DL.w_b2M, ↓DL.w_b2MT, DL.c_intU, DL.c_intbU, ↓DL.w_mthL, ↓DL.w_uM, ↓DL.w_inv, ↓DL.w_bin_obj, ↓DL.w_bin_int, ↓DL.w_fldS, DL.m_fld, DL.atI_new, DL.putD, ↓DL.w_repL, ↓DL.w_isiC, ↓DL.w_par3, ↓DL.wPar3_3, DL.m_count, DL.wretL_new, DL.wret_new, ↓DL.c_setSort, DL.o_addI, DL.o_inS, DL.o_ninS, ↓DL.c_str, ↓DL.c_intSw, ↓DL.m_ext, DL.slt_l, DL.slt_t, DL.slt_r, ↓DL.c_dm, ↓DL.c_split, ↓DL.c_join, ↓DL.c_rep, ↓DL.x_str, ↓DL.o_catRL, ↓DL.o_addRL, ↓DL.wret_tup, ↓DL.wret_lst, List.take_length, List.length_cons, List.length_nil, List.length_map, Int.cast_ofNat_Int, Bool.not_true, Bool.not_false, Int.reduceAdd, Int.reduceSub, Int.reduceMul, Int.reduceNeg, Int.reduceEq, Int.reduceLT, Int.reduceLE, Nat.reduceAdd, Nat.reduceSub, eq_self, not_true_eq_false, not_false_eq_true, false_implies, implies_true, true_implies, ff_Nodes_held, ff_Program_own_nodes, fm_Program_accesses, isf_Nodes_Nodes, isf_Nodes_Program, isf_Nodes_0s, isf_Nodes_0i, isf_Nodes_0l, isf_Nodes_0t, isf_Nodes_0n, isf_Nodes_0b, isf_Program_Nodes, isf_Program_Program, isf_Program_0s, isf_Program_0i, isf_Program_0l, isf_Program_0t, isf_Program_0n, isf_Program_0b])
/-! wide programs of a law -/
open MT MN
section
variable {S : Cells} {E : Xc → Cells → Prop} {Q : D → Cells → Prop} {QL : List D → Cells → Prop}
theorem at_int3 {a b c k : Int} (h0 : 0 ≤ k) (h1 : k < 3) (q : ∀ x, (x = a ∨ x = b ∨ x = c) → Q (.int x) S) : wAt [.int a, .int b, .int c] k S Q :=
  at_3 h0 h1 (fun _ => q _ (.inl rfl)) (fun _ => q _ (.inr (.inl rfl))) (fun _ => q _ (.inr (.inr rfl)))
theorem at_int2 {a b k : Int} (h0 : 0 ≤ k) (h1 : k < 2) (q : ∀ x, (x = a ∨ x = b) → Q (.int x) S) : wAt [.int a, .int b] k S Q :=
  at_2 h0 h1 (fun _ => q _ (.inl rfl)) (fun _ => q _ (.inr rfl))
theorem few_wp {c k : Nat} {m : Nat} {low : Int} (h0 : 0 ≤ low) (hm : m ≤ 1000) (hp : Ket S c k) (hk : k ≤ 10 ^ 38)
    (q : ∀ l S', oks (low + 6) 2 l → l.length = m → dps l = 0 → (scss l).length = m → Ket S' c (k + 2 * m) → Fr S S' c → Q (.lst (l.map eL)) S') : wp (g__law_few [.ref c, .int m, .int low] S) Q E := by
  have zz := z24
  push_cast [g__law_few, B__law_few, w_rangeN (show m ≤ sizeLine by omega)]
  refine comp_st (σ := Cells × List Nd) (fun k : Nat => D.int k) (fun σ => σ.1) (fun σ acc r => acc = σ.2.map eL ∧ Ket σ.1 c (k + 2 * σ.2.length) ∧ Fr S σ.1 c ∧ oks (low + 6) 2 σ.2 ∧ dps σ.2 = 0 ∧ (scss σ.2).length = σ.2.length ∧ σ.2.length + r.length = m) ?_ (List.range m) (S, []) [] _ ⟨rfl, hp, Fr.refl _ _, by rw [oks]; trivial, by rw [dps], by rw [scss]; rfl, by simp⟩ ?_
  · rintro ⟨S2, l⟩ acc j r ⟨ha, hp, hf, lo, ld, ls, hl⟩
    simp only [List.length_cons] at ha hp hf lo ld ls hl
    unfold cStep
    push_cast
    refine scoop_wp0 hp (by omega) (by omega) (by omega) fun a S3 a0 a1 hp hf3 => ?_
    push_cast
    refine scoop_wp0 hp (by omega) (by omega) (by omega) fun b S4 b0 b1 hp hf4 => ?_
    push_cast
    refine ⟨(S4, l ++ [.sc (low + a) (low + b)]), rfl, ?_, ?_, (hf.trans hf3).trans hf4, ?_, ?_, ?_, ?_⟩
    · rw [ha, List.map_append, List.map_cons, List.map_nil, eL_sc]
      rfl
    · refine hp.mono ?_
      simp only [List.length_append, List.length_singleton]
      omega
    · rw [oks_app, oks_one, ok]
      exact ⟨lo, by omega, by omega⟩
    · rw [dps_app, dps_one, dp]
      omega
    · rw [scss_app, scss_one, scs]
      simp only [List.length_append, List.length_singleton]
      omega
    · simp only [List.length_append, List.length_singleton]
      omega
  · rintro ⟨S2, l⟩ out ⟨ha, hp, hf, lo, ld, ls, hl⟩
    simp only [List.nil_append, List.length_nil] at ha hp hf lo ld ls hl
    have hfl := fl_eL 8 l (by omega) lo
    subst ha
    push_cast [wret_lst hfl]
    rw [hf.len.symm, List.take_length]
    exact q l S2 lo (by omega) ld (by omega) (hp.mono (by omega)) hf
theorem wide_wp {c k : Nat} (hp : Ket S c k) (hk : k ≤ 10 ^ 37)
    (q : ∀ l S', oks 6 2 l → l ≠ [] → dps l ≤ 5 → (scss l).length ≤ 40 → Ket S' c (k + 200) → Fr S S' c → Q (.lst (l.map eL)) S') : wp (g__law_wide [.ref c] S) Q E := by
  have zz := z24
  push_cast [g__law_wide, B__law_wide]
  refine few_wp (m := 8) (by decide) (by decide) hp (by omega) fun l S1 lo ll ld ls hp hf => ?_
  push_cast [w_rangeI (i := 4) (by decide) (by omega)]
  refine for_st (σ := Cells × List Nd × Option D × Nat) (fun k : Nat => D.int k) (fun σ => [some (.ref c), some (.lst (σ.2.1.map eL)), σ.2.2.1]) (fun σ => σ.1)
    (fun σ r => Ket σ.1 c (k + 20 * (1 + σ.2.2.2)) ∧ Fr S σ.1 c ∧ oks 6 2 σ.2.1 ∧ σ.2.1 ≠ [] ∧ σ.2.1.length ≤ 9 ∧ dps σ.2.1 ≤ σ.2.2.2 ∧ (scss σ.2.1).length = 8 * (1 + σ.2.2.2) ∧ σ.2.2.2 + r.length = 4) (List.range (Int.toNat 4)) (S1, l, none, 0)
    ⟨hp.mono (by omega), hf, lo, by rintro rfl; simp at ll, by show l.length ≤ 9; omega, by show dps l ≤ 0; omega, by show (scss l).length = 8; omega, rfl⟩ ?_ ?_
  · rintro ⟨S2, l, x2, t⟩ j r ⟨hp, hf, lo, l0, ll, ld, ls, hr⟩
    simp only [List.length_cons] at hp hf lo l0 ll ld ls hr
    push_cast [L1__law_wide]
    refine few_wp (m := 8) (by decide) (by decide) hp (by omega) fun m S3 mo ml md ms hp hf3 => ?_
    push_cast [List.length_map]
    refine ⟨by omega, (S3, .rp l 2 :: m, some (.int (j : Nat)), t + 1), ?_, rfl, hp.mono (by show _ ≤ k + 20 * (1 + (t + 1)); omega), hf.trans hf3, ?_, by simp, ?_, ?_, ?_, ?_⟩
    · simp only [List.map_cons, eL_rp]
      rfl
    · rw [oks, ok]
      exact ⟨⟨l0, by decide, lo⟩, mo⟩
    · simp only [List.length_cons]
      omega
    · rw [dps, dp]
      show max _ _ ≤ t + 1
      omega
    · rw [scss, scs, List.length_append]
      show _ = 8 * (1 + (t + 1))
      omega
    · show t + 1 + _ = 4
      omega
  · rintro ⟨S2, l, x2, t⟩ ⟨hp, hf, lo, l0, ll, ld, ls, hr⟩
    simp only [List.length_nil] at hp hf lo l0 ll ld ls hr
    have hfl := fl_eL 8 l (by omega) lo
    push_cast [wret_lst (show flatL [D.tup [.str "again", .lst (l.map eL), .int 2]] = true by simp [flat_tup, flatL_cons, flat_lst, hfl, fl_nil])]
    rw [hf.len.symm, List.take_length]
    have := q [.rp l 2] S2 (by rw [oks_one, ok]; exact ⟨l0, by decide, lo⟩) (by simp) (by rw [dps_one, dp]; omega) (by rw [scss_one, scs]; omega) (hp.mono (by omega)) hf
    rw [List.map_cons, List.map_nil, eL_rp] at this
    exact this
end

end K26
end
section
set_option maxHeartbeats 4000000
set_option exponentiation.threshold 3000
namespace K26
open PySem PySem.Spec L2 DL
open PyProof.Rows hiding St
open Lean in
local macro_rules | `(tactic| push_cast [$ts,*]) => `(tactic| simp only [↓DL.r0, ↓DL.r1, ↓DL.r2, ↓DL.r3, ↓DL.r4, ↓DL.r5, ↓DL.r6, ↓DL.r7, ↓DL.r8, ↓DL.r9, ↓DL.r10, ↓DL.r11, ↓DL.r12, ↓DL.r13, ↓DL.r14, ↓DL.r15, ↓DL.r16, ↓DL.r17, ↓DL.r18, ↓DL.r19, ↓DL.r20, ↓DL.r21, ↓DL.r22, ↓DL.r23, ↓DL.r24, ↓DL.r25, ↓DL.r26, ↓DL.r27, ↓DL.r28, ↓DL.r29, DL.s0, DL.s1, DL.s2, DL.s3, DL.s4, DL.s5, DL.s6, DL.s7, DL.s8, DL.s9, DL.s10, DL.s11, DL.s12, DL.s13, DL.s14, DL.s15, DL.s16, DL.s17, DL.s18, DL.s19, DL.s20, DL.s21, DL.s22, DL.s23, DL.s24, DL.s25, DL.s26, DL.s27, DL.s28, DL.s29, DL.startD_cons, DL.startD_nil, DL.startD_zero, ↓DL.w_ok, ↓DL.w_some, ↓DL.w_somec, ↓DL.w_bind, ↓DL.w_opt, ↓DL.w_chg, ↓DL.w_kon, ↓DL.w_calm, ↓DL.w_b2, ↓DL.w_b2L, ↓DL.w_b1, ↓DL.wB_bl, ↓DL.w_asB, ↓DL.w_b2T, ↓DL.w_chE, ↓DL.w_chT, ↓DL.w_not, ↓DL.w_val, ↓DL.w_notE, ↓DL.w_ifE, ↓DL.w_ifL, ↓DL.w_andM, ↓DL.w_orM, ↓DL.w_andE, ↓DL.w_orE, ↓DL.w_nil, ↓DL.w_cons, ↓DL.w_tup, ↓DL.w_lst, ↓DL.w_frz, ↓DL.w_new, ↓DL.w_cel, ↓DL.w_cb, ↓DL.w_cbL, ↓DL.w_call, ↓DL.w_callL, ↓DL.w_ar0, ↓DL.w_ar1, ↓DL.w_ar2, ↓DL.w_ar3, ↓DL.w_ar4, ↓DL.w_ar5, ↓DL.w_ar6, ↓DL.w_noO, ↓DL.w_smO, ↓DL.w_sl, ↓DL.w_slL, ↓DL.w_rev, ↓DL.w_step, ↓DL.w_isi, ↓DL.w_sets, ↓DL.w_lrg, ↓DL.w_mth, ↓DL.w_mth0, ↓DL.w_itS, ↓DL.w_itR1, ↓DL.w_itR2, ↓DL.w_itR3, ↓DL.w_itZ, ↓DL.w_itN, ↓DL.w_lc, ↓DL.w_nx, ↓DL.w_rt, ↓DL.w_seq, ↓DL.w_set, ↓DL.wPar_2, ↓DL.w_par, ↓DL.w_aug, ↓DL.w_sto, ↓DL.w_exp, ↓DL.w_ret, ↓DL.w_retN, ↓DL.w_nxS, ↓DL.w_ifS, ↓DL.w_for, ↓DL.w_asg, ↓DL.w_stk, ↓DL.w_body, ↓DL.w_bodyL, ↓DL.wret_non, ↓DL.wret_bl, ↓DL.wret_int, ↓DL.wret_str, ↓DL.wif_t, ↓DL.wif_f, ↓DL.wif_d, ↓DL.wif_n, ↓DL.wif_a, ↓DL.wif_o, DL.few0, DL.few1, DL.few2, DL.few3, DL.few4, DL.few5, DL.few6, DL.few7, DL.few8, DL.few9, DL.few10, true_and, and_true, ↓DL.a_nm, ↓DL.a_tp1, ↓DL.a_tp2, ↓DL.a_tp3, ↓DL.a_tp4, ↓DL.a_tp5, ↓DL.a_tpn, ↓DL.a_tpm, ↓DL.a_encP, DL.wipe_nil, DL.wipe_cons, DL.o_add, DL.o_sub, DL.o_neg, ↓DL.o_mul, ↓DL.o_div, ↓DL.o_mod, DL.o_pow, ↓DL.o_p10_3, ↓DL.o_p10_4, ↓DL.o_p10_6, ↓DL.o_p10_8, ↓DL.o_p10_9, ↓DL.o_p10_12, ↓DL.o_p10_15, ↓DL.o_p10_18, ↓DL.o_p10_20, ↓DL.o_p10_25, ↓DL.o_p10_26, ↓DL.o_p10_27, ↓DL.o_p10_28, ↓DL.o_p10_29, ↓DL.o_p10_30, ↓DL.o_p10_31, ↓DL.o_p10_36, ↓DL.o_p10_38, ↓DL.o_p10_40, ↓DL.o_p10_42, ↓DL.o_p10_44, ↓DL.o_p10_46, ↓DL.o_p10_48, ↓DL.o_p10_50, ↓DL.o_p10_60, ↓DL.o_p10_64, ↓DL.o_p10_70, ↓DL.o_p10_90, ↓DL.o_p10_99, ↓DL.o_p10_100, ↓DL.o_addS, ↓DL.o_addT, ↓DL.o_catL, ↓DL.o_addL, DL.o_lt, DL.o_le, DL.o_gt, DL.o_ge, DL.o_eqI, DL.o_neI, DL.o_eqS, DL.o_neS, DL.o_is, DL.o_isn, DL.n_non, DL.n_bl, DL.n_int, DL.n_str, DL.n_lst, DL.n_tup, DL.n_ref, DL.n_obj, DL.i_non_int, DL.i_non_bool, DL.i_non_str, DL.i_non_list, DL.i_non_tuple, DL.i_bl_int, DL.i_bl_bool, DL.i_bl_str, DL.i_bl_list, DL.i_bl_tuple, DL.i_int_int, DL.i_int_bool, DL.i_int_str, DL.i_int_list, DL.i_int_tuple, DL.i_str_int, DL.i_str_bool, DL.i_str_str, DL.i_str_list, DL.i_str_tuple, DL.i_lst_int, DL.i_lst_bool, DL.i_lst_str, DL.i_lst_list, DL.i_lst_tuple, DL.i_tup_int, DL.i_tup_bool, DL.i_tup_str, DL.i_tup_list, DL.i_tup_tuple, DL.t_non, DL.t_bl, DL.t_int, DL.t_lst, DL.t_tup, ↓DL.x_lst, ↓DL.x_tup, ↓DL.x_encP0, ↓DL.x_encP1, DL.ixn1_0, DL.ixn1_m1, DL.ixn2_0, DL.ixn2_1, DL.ixn2_m1, DL.ixn3_0, DL.ixn3_1, DL.ixn3_2, DL.ixn3_m1, DL.ixn4_0, DL.ixn4_1, DL.ixn4_2, DL.ixn4_3, DL.ixn4_m1, DL.ixn5_0, DL.ixn5_1, DL.ixn5_2, DL.ixn5_3, DL.ixn5_4, DL.ixn5_m1, DL.ixn6_0, DL.ixn6_1, DL.ixn6_2, DL.ixn6_3, DL.ixn6_4, DL.ixn6_5, DL.ixn6_m1, DL.ixn7_0, DL.ixn7_1, DL.ixn7_2, DL.ixn7_3, DL.ixn7_4, DL.ixn7_5, DL.ixn7_6, DL.ixn7_m1, DL.ixn8_0, DL.ixn8_1, DL.ixn8_2, DL.ixn8_3, DL.ixn8_4, DL.ixn8_5, DL.ixn8_6, DL.ixn8_7, DL.ixn8_m1, ↓DL.x1_0, ↓DL.x1_m1, ↓DL.x2_0, ↓DL.x2_1, ↓DL.x2_m1, ↓DL.x3_0, ↓DL.x3_1, ↓DL.x3_2, ↓DL.x3_m1, ↓DL.x4_0, ↓DL.x4_1, ↓DL.x4_2, ↓DL.x4_3, ↓DL.x4_m1, ↓DL.x5_0, ↓DL.x5_1, ↓DL.x5_2, ↓DL.x5_3, ↓DL.x5_4, ↓DL.x5_m1, ↓DL.x6_0, ↓DL.x6_1, ↓DL.x6_2, ↓DL.x6_3, ↓DL.x6_4, ↓DL.x6_5, ↓DL.x6_m1, ↓DL.x7_0, ↓DL.x7_1, ↓DL.x7_2, ↓DL.x7_3, ↓DL.x7_4, ↓DL.x7_5, ↓DL.x7_6, ↓DL.x7_m1, ↓DL.x8_0, ↓DL.x8_1, ↓DL.x8_2, ↓DL.x8_3, ↓DL.x8_4, ↓DL.x8_5, ↓DL.x8_6, ↓DL.x8_7, ↓DL.x8_m1, DL.c_abs, DL.c_max2, DL.c_min2, DL.c_int, DL.c_intb, DL.c_lenS, DL.c_lenT, DL.c_lenL, DL.c_listT, DL.c_listL, DL.c_tupT, DL.c_tupL, DL.c_sum, DL.c_sum0, DL.c_all, DL.c_any, DL.c_minP, DL.c_maxP, DL.c_sortP, DL.c_zip, DL.c_enum, DL.c_range1, DL.c_range2, DL.g_lst, DL.g_tup, DL.g_str, DL.p_int, DL.sq_lst, DL.sl_lst, DL.sl_tup, DL.sl_str, DL.slL_lst, DL.om_some, List.set_cons_zero, List.set_cons_succ, DL.m_tyL, DL.m_tyS, DL.m_ty, DL.m_app, DL.m_sto, DL.m_fzL, DL.m_fzI, DL.m_fzT, DL.m_fz, DL.x_ref, DL.c_lenR, DL.c_listR, DL.c_tupR, DL.sl_ref, DL.atL_new, DL.atL_new1, DL.atL_new2, DL.atL_old, DL.set_new, DL.set_new1, DL.set_new2, DL.set_old, DL.take_app, DL.app_app, DL.cons_app, DL.nil_app, DL.len_app1, DL.len_app2, DL.len_app3, DL.len_set, DL.seq_new, DL.seq_new1, DL.seq_new2, DL.seq_old, DL.ex_some, DL.fl_non, DL.fl_int, DL.fl_bl, DL.fl_str, DL.fl_tup, DL.fl_lst, DL.fl_obj, DL.fl_nil, DL.fl_cons, DL.fl_app, DL.fl_encP, Bool.and_self, Bool.and_true, Bool.true_and, List.set_set, ↓DL.w_yes, ↓DL.w_fld, ↓DL.w_mt, ↓DL.w_mtL, ↓DL.w_mt0, ↓DL.w_mt0L, ↓DL.w_ic, DL.isO_obj, ↓DL.w_make, ↓DL.w_b2M, ↓DL.w_b2MT, DL.c_intU, DL.c_intbU, ↓DL.w_mthL, ↓DL.w_uM, ↓DL.w_inv, ↓DL.w_bin_obj, ↓DL.w_bin_int, ↓DL.w_fldS, DL.m_fld, DL.atI_new, DL.putD, ↓DL.w_repL, ↓DL.w_isiC, ↓DL.w_par3, ↓DL.wPar3_3, DL.m_count, DL.wretL_new, DL.wret_new, ↓DL.c_setSort, DL.o_addI, DL.o_inS, DL.o_ninS, ↓DL.c_str, ↓DL.c_intSw, ↓DL.m_ext, DL.slt_l, DL.slt_t, DL.slt_r, ↓DL.c_dm, ↓DL.c_split, ↓DL.c_join, ↓DL.c_rep, ↓DL.x_str, ↓DL.o_catRL, ↓DL.o_addRL, ↓DL.wret_tup, ↓DL.wret_lst, List.take_length, List.length_cons, List.length_nil, List.length_map, Int.cast_ofNat_Int, Bool.not_true, Bool.not_false, Int.reduceAdd, Int.reduceSub, Int.reduceMul, Int.reduceNeg, Int.reduceEq, Int.reduceLT, Int.reduceLE, Nat.reduceAdd, Nat.reduceSub, eq_self, not_true_eq_false, not_false_eq_true, false_implies, implies_true, true_implies, ff_Nodes_held, ff_Program_own_nodes, fm_Program_accesses, isf_Nodes_Nodes, isf_Nodes_Program, isf_Nodes_0s, isf_Nodes_0i, isf_Nodes_0l, isf_Nodes_0t, isf_Nodes_0n, isf_Nodes_0b, isf_Program_Nodes, isf_Program_Program, isf_Program_0s, isf_Program_0i, isf_Program_0l, isf_Program_0t, isf_Program_0n, isf_Program_0b, $ts,*])
open Lean in
local macro_rules | `(tactic| push_cast) => `(tactic| simp only [↓DL.r0, ↓DL.r1, ↓DL.r2, ↓DL.r3, ↓DL.r4, ↓DL.r5, ↓DL.r6, ↓DL.r7, ↓DL.r8, ↓DL.r9, ↓DL.r10, ↓DL.r11, ↓DL.r12, ↓DL.r13, ↓DL.r14, ↓DL.r15, ↓DL.r16, ↓DL.r17, ↓DL.r18, ↓DL.r19, ↓DL.r20, ↓DL.r21, ↓DL.r22, ↓DL.r23, ↓DL.r24, ↓DL.r25, ↓DL.r26, ↓DL.r27, ↓DL.r28, ↓DL.r29, DL.s0, DL.s1, DL.s2, DL.s3, DL.s4, DL.s5, DL.s6, DL.s7, DL.s8, DL.s9, DL.s10, DL.s11, DL.s12, DL.s13, DL.s14, DL.s15, DL.s16, DL.s17, DL.s18, DL.s19, DL.s20, DL.s21, DL.s22, DL.s23, DL.s24, DL.s25, DL.s26, DL.s27, DL.s28, DL.s29, DL.startD_cons, DL.startD_nil, DL.startD_zero, ↓DL.w_ok, ↓DL.w_some, ↓DL.w_somec, ↓DL.w_bind, ↓DL.w_opt, ↓DL.w_chg, ↓DL.w_kon, ↓DL.w_calm, ↓DL.w_b2, ↓DL.w_b2L, ↓DL.w_b1, ↓DL.wB_bl, ↓DL.w_asB, ↓DL.w_b2T, ↓DL.w_chE, ↓DL.w_chT, ↓DL.w_not, ↓DL.w_val, ↓DL.w_notE, ↓DL.w_ifE, ↓DL.w_ifL, ↓DL.w_andM, ↓DL.w_orM, ↓DL.w_andE, ↓DL.w_orE, ↓DL.w_nil, ↓DL.w_cons, ↓DL.w_tup, ↓DL.w_lst, ↓DL.w_frz, ↓DL.w_new, ↓DL.w_cel, ↓DL.w_cb, ↓DL.w_cbL, ↓DL.w_call, ↓DL.w_callL, ↓DL.w_ar0, ↓DL.w_ar1, ↓DL.w_ar2, ↓DL.w_ar3, ↓DL.w_ar4, ↓DL.w_ar5, ↓DL.w_ar6, ↓DL.w_noO, ↓DL.w_smO, ↓DL.w_sl, ↓DL.w_slL, ↓DL.w_rev, ↓DL.w_step, ↓DL.w_isi, ↓DL.w_sets, ↓DL.w_lrg, ↓DL.w_mth, ↓DL.w_mth0, ↓DL.w_itS, ↓DL.w_itR1, ↓DL.w_itR2, ↓DL.w_itR3, ↓DL.w_itZ, ↓DL.w_itN, ↓DL.w_lc, ↓DL.w_nx, ↓DL.w_rt, ↓DL.w_seq, ↓DL.w_set, ↓DL.wPar_2, ↓DL.w_par, ↓DL.w_aug, ↓DL.w_sto, ↓DL.w_exp, ↓DL.w_ret, ↓DL.w_retN, ↓DL.w_nxS, ↓DL.w_ifS, ↓DL.w_for, ↓DL.w_asg, ↓DL.w_stk, ↓DL.w_body, ↓DL.w_bodyL, ↓DL.wret_non, ↓DL.wret_bl, ↓DL.wret_int, ↓DL.wret_str, ↓DL.wif_t, ↓DL.wif_f, ↓DL.wif_d, ↓DL.wif_n, ↓DL.wif_a, ↓DL.wif_o, DL.few0, DL.few1, DL.few2, DL.few3, DL.few4, DL.few5, DL.few6, DL.few7, DL.few8, DL.few9, DL.few10, true_and, and_true, ↓DL.a_nm, ↓DL.a_tp1, ↓DL.a_tp2, ↓DL.a_tp3, ↓DL.a_tp4, ↓DL.a_tp5, ↓DL.a_tpn, ↓DL.a_tpm, ↓DL.a_encP, DL.wipe_nil, DL.wipe_cons, DL.o_add, DL.o_sub, DL.o_neg, ↓DL.o_mul, ↓DL.o_div, ↓DL.o_mod, DL.o_pow, ↓DL.o_p10_3, ↓DL.o_p10_4, ↓DL.o_p10_6, ↓DL.o_p10_8, ↓DL.o_p10_9, ↓DL.o_p10_12, ↓DL.o_p10_15, ↓DL.o_p10_18, ↓DL.o_p10_20, ↓DL.o_p10_25, ↓DL.o_p10_26, ↓DL.o_p10_27, ↓DL.o_p10_28, ↓DL.o_p10_29, ↓DL.o_p10_30, ↓DL.o_p10_31, ↓DL.o_p10_36, ↓DL.o_p10_38, ↓DL.o_p10_40, ↓DL.o_p10_42, ↓DL.o_p10_44, ↓DL.o_p10_46, ↓DL.o_p10_48, ↓DL.o_p10_50, ↓DL.o_p10_60, ↓DL.o_p10_64, ↓DL.o_p10_70, ↓DL.o_p10_90, ↓DL.o_p10_99, ↓DL.o_p10_100, ↓DL.o_addS, ↓DL.o_addT, ↓DL.o_catL, ↓DL.o_addL, DL.o_lt, DL.o_le, DL.o_gt, DL.o_ge, DL.o_eqI, DL.o_neI, DL.o_eqS, DL.o_neS, DL.o_is, DL.o_isn, DL.n_non, DL.n_bl, DL.n_int, DL.n_str, DL.n_lst, DL.n_tup, DL.n_ref, DL.n_obj, DL.i_non_int, DL.i_non_bool, DL.i_non_str, DL.i_non_list, DL.i_non_tuple, DL.i_bl_int, DL.i_bl_bool, DL.i_bl_str, DL.i_bl_list, DL.i_bl_tuple, DL.i_int_int, DL.i_int_bool, DL.i_int_str, DL.i_int_list, DL.i_int_tuple, DL.i_str_int, DL.i_str_bool, DL.i_str_str, DL.i_str_list, DL.i_str_tuple, DL.i_lst_int, DL.i_lst_bool, DL.i_lst_str, DL.i_lst_list, DL.i_lst_tuple, DL.i_tup_int, DL.i_tup_bool, DL.i_tup_str, DL.i_tup_list, DL.i_tup_tuple, DL.t_non, DL.t_bl, DL.t_int, DL.t_lst, DL.t_tup, ↓DL.x_lst, ↓DL.x_tup, ↓DL.x_encP0, ↓DL.x_encP1, DL.ixn1_0, DL.ixn1_m1, DL.ixn2_0, DL.ixn2_1, DL.ixn2_m1, DL.ixn3_0, DL.ixn3_1, DL.ixn3_2, DL.ixn3_m1, DL.ixn4_0, DL.ixn4_1, DL.ixn4_2, DL.ixn4_3, DL.ixn4_m1, DL.ixn5_0, DL.ixn5_1, DL.ixn5_2, DL.ixn5_3, DL.ixn5_4, DL.ixn5_m1, DL.ixn6_0, DL.ixn6_1, DL.ixn6_2, DL.ixn6_3, DL.ixn6_4, DL.ixn6_5, DL.ixn6_m1, DL.ixn7_0, DL.ixn7_1, DL.ixn7_2, DL.ixn7_3, DL.ixn7_4, DL.ixn7_5, DL.ixn7_6, DL.ixn7_m1, DL.ixn8_0, DL.ixn8_1, DL.ixn8_2, DL.ixn8_3, DL.ixn8_4, DL.ixn8_5, DL.ixn8_6, DL.ixn8_7, DL.ixn8_m1, ↓DL.x1_0, ↓DL.x1_m1, ↓DL.x2_0, ↓DL.x2_1, ↓DL.x2_m1, ↓DL.x3_0, ↓DL.x3_1, ↓DL.x3_2, ↓DL.x3_m1, ↓DL.x4_0, ↓DL.x4_1, ↓DL.x4_2, ↓DL.x4_3, ↓DL.x4_m1, ↓DL.x5_0, ↓DL.x5_1, ↓DL.x5_2, ↓DL.x5_3, ↓DL.x5_4, ↓DL.x5_m1, ↓DL.x6_0, ↓DL.x6_1, ↓DL.x6_2, ↓DL.x6_3, ↓DL.x6_4, ↓DL.x6_5, ↓DL.x6_m1, ↓DL.x7_0, ↓DL.x7_1, ↓DL.x7_2, ↓DL.x7_3, ↓DL.x7_4, ↓DL.x7_5, ↓DL.x7_6, ↓DL.x7_m1, ↓DL.x8_0, ↓DL.x8_1, ↓DL.x8_2, ↓DL.x8_3, ↓DL.x8_4, ↓DL.x8_5, ↓DL.x8_6, ↓DL.x8_7, ↓DL.x8_m1, DL.c_abs, DL.c_max2, DL.c_min2, DL.c_int, DL.c_intb, DL.c_lenS, DL.c_lenT, DL.c_lenL, DL.c_listT, DL.c_listL, DL.c_tupT, DL.c_tupL, DL.c_sum, DL.c_sum0, DL.c_all, DL.c_any, DL.c_minP, DL.c_maxP, DL.c_sortP, DL.c_zip, DL.c_enum, DL.c_range1, DL.c_range2, DL.g_lst, DL.g_tup, DL.g_str, DL.p_int, DL.sq_lst, DL.sl_lst, DL.sl_tup, DL.sl_str, DL.slL_lst, DL.om_some, List.set_cons_zero, List.set_cons_succ, DL.m_tyL, DL.m_tyS, DL.m_ty, DL.m_app, DL.m_sto, DL.m_fzL, DL.m_fzI, DL.m_fzT, DL.m_fz, DL.x_ref, DL.c_lenR, DL.c_listR, DL.c_tupR, DL.sl_ref, DL.atL_new, DL.atL_new1, DL.atL_new2, DL.atL_old, DL.set_new, DL.set_new1, DL.set_new2, DL.set_old, DL.take_app, DL.app_app, DL.cons_app, DL.nil_app, DL.len_app1, DL.len_app2, DL.len_app3, DL.len_set, DL.seq_new, DL.seq_new1, DL.seq_new2, DL.seq_old, DL.ex_some, DL.fl_non, DL.fl_int, DL.fl_bl, DL.fl_str, DL.fl_tup, DL.fl_lst, DL.fl_obj, DL.fl_nil, DL.fl_cons, DL.fl_app, DL.fl_encP, Bool.and_self, Bool.and_true, Bool.true_and, List.set_set, ↓DL.w_yes, ↓DL.w_fld, ↓DL.w_mt, ↓DL.w_mtL, ↓DL.w_mt0, ↓DL.w_mt0L, ↓DL.w_ic, DL.isO_obj, ↓DL.w_make, ↓DL.w_b2M, ↓DL.w_b2MT, DL.c_intU, DL.c_intbU, ↓DL.w_mthL, ↓DL.w_uM, ↓DL.w_inv, ↓DL.w_bin_obj, ↓DL.w_bin_int, ↓DL.w_fldS, DL.m_fld, DL.atI_new, DL.putD, ↓DL.w_repL, ↓DL.w_isiC, ↓DL.w_par3, ↓DL.wPar3_3, DL.m_count, DL.wretL_new, DL.wret_new, ↓DL.c_setSort, DL.o_addI, DL.o_inS, DL.o_ninS, ↓DL.c_str, ↓DL.c_intSw, ↓DL.m_ext, DL.slt_l, DL.slt_t, DL.slt_r, ↓DL.c_dm, ↓DL.c_split, ↓DL.c_join, ↓DL.c_rep, ↓DL.x_str, ↓DL.o_catRL, ↓DL.o_addRL, ↓DL.wret_tup, ↓DL.wret_lst, List.take_length, List.length_cons, List.length_nil, List.length_map, Int.cast_ofNat_Int, Bool.not_true, Bool.not_false, Int.reduceAdd, Int.reduceSub, Int.reduceMul, Int.reduceNeg, Int.reduceEq, Int.reduceLT, Int.reduceLE, Nat.reduceAdd, Nat.reduceSub, eq_self, not_true_eq_false, not_false_eq_true, false_implies, implies_true, true_implies, ff_Nodes_held, ff_Program_own_nodes, fm_Program_accesses, isf_Nodes_Nodes, isf_Nodes_Program, isf_Nodes_0s, isf_Nodes_0i, isf_Nodes_0l, isf_Nodes_0t, isf_Nodes_0n, isf_Nodes_0b, isf_Program_Nodes, isf_Program_Program, isf_Program_0s, isf_Program_0i, isf_Program_0l, isf_Program_0t, isf_Program_0n, isf_Program_0b])
/-! k26 -/
open MT MN
section
variable {S : Cells} {E : Xc → Cells → Prop} {Q : D → Cells → Prop} {QL : List D → Cells → Prop}
theorem shown_ints {l : List Int} (h : l.length ≤ 8000) (h2 : ∀ i ∈ l, logOk i) : ∃ x, ∀ S, reprD [.lst (l.map .int)] S = some (.str x) := by
  have hw := wtL_le (γ := Int) (f := D.int) (l := l) (w := 1921) fun i _ => by rw [wt_int]; omega
  exact repr_some (n := 1) (Gd.lst (n := 0) (Gd.map fun i hi => .int (h2 i hi))) (by omega) (by rw [wt_lst, z24]; omega) (by simp) (by simp)
theorem log_reads {w h : Int} (hw : w ≤ (1000000000000000000000000000000 : Int) + 1) : ∀ n l, dps l ≤ n → oks w h l → ∀ i ∈ rdss l, 0 ≤ i ∧ i < w := by
  have one : ∀ n : Nat, (∀ l, dps l < n → oks w h l → ∀ i ∈ rdss l, 0 ≤ i ∧ i < w) → ∀ l, dps l ≤ n → oks w h l → ∀ i ∈ rdss l, 0 ≤ i ∧ i < w := by
    intro n ihn l hl k
    induction l with
    | nil => intro i hi; rw [rdss] at hi; simp at hi
    | cons m l ih =>
      rw [oks] at k
      rw [dps] at hl
      intro i hi
      rw [rdss] at hi
      rcases List.mem_append.mp hi with hi | hi
      · cases m with
        | sc a b =>
          have k1 := k.1
          rw [ok] at k1
          rw [rds] at hi
          unfold scn at hi
          obtain ⟨j, hj, e⟩ := List.mem_map.mp hi
          have hj := List.mem_range.mp hj
          unfold sz at hj
          unfold stp at e
          subst e
          split at hj <;> split <;> omega
        | rp l2 t =>
          rw [dp] at hl
          have k1 := k.1
          rw [ok] at k1
          rw [rds] at hi
          obtain ⟨r, hr, hi⟩ := List.mem_flatten.mp hi
          rw [(List.mem_replicate.mp hr).2] at hi
          exact ihn l2 (by omega) k1.2.2 i hi
      · exact ih (by omega) k.2 i hi
  intro n
  induction n with
  | zero => exact one 0 fun l hl => by omega
  | succ n ih => exact one (n + 1) fun l hl => ih l (by omega)
/-- what one program is asked -/
theorem gdI {l : List Int} (h2 : ∀ i ∈ l, logOk i) : Gd 1 (.lst (l.map .int)) := Gd.lst (n := 0) (Gd.map fun i hi => .int (h2 i hi))
theorem pg_of {w h : Int} {l : List Nd} (hw : 1 ≤ w) (hw2 : w ≤ (1000000000000000000000000000000 : Int) + 1) (hh : 2 ≤ h) (hh2 : h ≤ (1000000000000000000000000000000 : Int)) (hk : oks w h l) (hd : dps l ≤ 5) (hs : (scss l).length ≤ 1000) : PG w h l :=
  ⟨hw2, hh2, hk, hd, lens_small hk hw (by omega) hh (by omega) (by omega) hs⟩
theorem ne_prog {w h : Int} {l : List Nd} (g : PG w h l) {Q : D → Cells → Prop} {E : Xc → Cells → Prop} (q : Q (.bl false) S) : wp (neOwn 1 g_Program___eq__ (prog l) (prog l) S) Q E :=
  w_ne_obj (wp_of (eq_prog g) ⟨true, rfl, q⟩)
theorem body_wp {ns : List Int} {i : Int} {c k : Nat} {x3 x4 x5 x6 x7 x8 : Option D} {N : En → Cells → Prop} {Rt : D → Cells → Prop} {E : Xc → En → Cells → Prop} (hp : Ket S c k) (hk : k ≤ 10 ^ 20)
    (q : ∀ S' x4 x5 x6 x7 x8, Ket S' c (k + 10 ^ 6) → N [some (.lst (ns.map .int)), some (.int i), some (.ref c), x3, x4, x5, x6, x7, x8, none] S') :
    wo (L1_law [some (.lst (ns.map .int)), some (.int i), some (.ref c), x3, x4, x5, x6, x7, x8, none] S) N Rt E := by
  have zz := z24
  push_cast [L1_law]
  refine scoop_wp0 hp (by omega) (by decide) (by decide) fun v S1 v0 v1 hp hf1 => ?_
  push_cast
  refine at_int2 v0 v1 fun most hmost => ?_
  obtain ⟨most, rfl⟩ : ∃ m : Nat, most = (m : Int) := ⟨most.toNat, by omega⟩
  push_cast
  refine scoop_wp0 hp (by omega) (by decide) (by decide) fun v S2 v0 v1 hp hf2 => ?_
  push_cast
  refine at_int2 v0 v1 fun wd hwd => ?_
  push_cast
  have hG : most * Gn 3 most ≤ 9 * Gn 3 9 := Nat.mul_le_mul (by omega) (Gn_mono 3 (by omega))
  have hG9 : 9 * Gn 3 9 ≤ 100000 := by decide
  refine small_wp (deep := 3) (by omega) (by omega) (by decide) (by decide) (by omega) (by omega) hp (by omega) fun l S3 lo l0 ld ls lb hp hf3 => ?_
  have g : PG wd 4 l := pg_of (by omega) (by omega) (by decide) (by decide) lo (by omega) (by omega)
  have hlen := rdss_len (dps l) l (Nat.le_refl _) lo
  have hlog : ∀ i ∈ rdss l, logOk i := fun i hi => by
    have := log_reads (by omega) (dps l) l (Nat.le_refl _) lo i hi
    exact logOk_le this.1 (by omega)
  obtain ⟨X, hX⟩ := shown_ints (l := rdss l) (by omega) hlog
  have hX2 : ∀ T : Cells, reprD [.ref T.length] (T ++ [⟨true, .lst ((rdss l).map .int)⟩]) = some (.str X) := fun T => by
    rw [repr_refL (b := true) (l := (rdss l).map .int) (by simp) fl_ints, hX]
  have hne : ∀ T : Cells, dNe (.lst ((rdss l).map .int)) (.lst ((rdss l).map .int)) T = some (.bl false) := fun T => dNe_same (gdI hlog) (by decide)
  push_cast [made_ok g (by omega), reads_ok g.hh 8 l (by omega) lo (by omega), written_ok g (by omega), fl_ints, hX, hX2, decide_true, List.length_map, hne]
  refine ⟨by omega, ?_⟩
  push_cast [isC_acc, accesses_ok g]
  refine ⟨fun _ => ?_, fun q => absurd hlen.symm q⟩
  push_cast [made_ok g (show (scss l).length ≤ 40 by omega)]
  refine ne_prog g ?_
  push_cast [List.length_map, w_rangeN (show (rdss l).length ≤ sizeLine by omega)]
  have hrow : ∀ {T : Cells} {QL : List D → Cells → Prop} {E : Xc → Cells → Prop}, QL [] T → wp (compD (.nm 8) (fun ρ => (b2T dNe (cbE reprD (consM (callE 2 g_address_at (consM (rd ρ 5) (consM (rd ρ 8) nilA))) nilA)) (cbE reprD (consM (b2 ixD (rd ρ 6) (rd ρ 8)) nilA)))) (fun ρ => rd ρ 8)
      [some (.lst (ns.map .int)), some (.int i), some (.ref c), x3, some (.lst (l.map eL)), some (prog l), some (.lst ((rdss l).map .int)), some (.ref S3.length), none, none] ((List.range (rdss l).length).map fun k : Nat => D.int k) T) QL E := fun q => by
    refine comp_fil_wp (fun k : Nat => D.int k) (fun _ => false) (fun k : Nat => D.int k) (List.range (rdss l).length) (fun k hk => ?_) ?_
    · have hk := List.mem_range.mp hk
      have hget : (rdss l)[k]? = some ((rdss l).getD k 0) := by rw [List.getD_eq_getElem?_getD, List.getElem?_eq_getElem hk]; rfl
      have hr := repr_int (S := S) (hlog _ (List.mem_of_getElem? hget))
      have hr2 : ∀ T, reprD [.int ((rdss l).getD k 0)] T = reprD [.int ((rdss l).getD k 0)] S := fun T => rfl
      unfold cStep
      push_cast [address_at_ok g (i := k) (by omega), hr2, hr]
      push_cast [wAt_map (enc := D.int) (k := (k : Int)) rfl hget, hr2, hr, decide_true]
      rfl
    · rw [List.filter_eq_nil_iff.mpr (by simp)]
      exact q
  refine hrow ?_
  have dn : ∀ T, dNe (.lst []) (.lst []) T = some (.bl false) := fun _ => rfl
  push_cast [dn]
  exact q _ _ _ _ _ _ (hp.mono (by omega)).new
theorem law_true (ns : List Int) (h : ns.length ≤ 63) : ∃ S, g_law [.lst (ns.map .int)] [] = .ok (.bl true) S := by
  have zz := z24
  suffices hw : wp (g_law [.lst (ns.map .int)] []) (fun d _ => d = .bl true) noE by
    obtain ⟨d, S, e, rfl⟩ := wp_ex hw
    exact ⟨S, e⟩
  push_cast [g_law, B_law]
  have hm : 0 ≤ (if (if (ns.length : Int) < 8 then (ns.length : Int) else 8) > 1 then (if (ns.length : Int) < 8 then (ns.length : Int) else 8) else 1) ∧ (if (if (ns.length : Int) < 8 then (ns.length : Int) else 8) > 1 then (if (ns.length : Int) < 8 then (ns.length : Int) else 8) else 1) ≤ 8 := by
    split <;> split <;> omega
  generalize (if (if (ns.length : Int) < 8 then (ns.length : Int) else 8) > 1 then (if (ns.length : Int) < 8 then (ns.length : Int) else 8) else 1) = m at *
  push_cast [w_rangeI hm.1 (by omega)]
  refine for_wp (fun k : Nat => D.int k) (fun r ρ S2 => (∀ k ∈ r, k < 8) ∧ ∃ x1 x2 x3 x4 x5 x6 x7 x8, ρ = [some (.lst (ns.map .int)), x1, x2, x3, x4, x5, x6, x7, x8, none]) ?_ ?_ _ _ _ ⟨fun k hk => by rw [List.mem_range] at hk; omega, _, _, _, _, _, _, _, _, rfl⟩
  · rintro i r ρ S2 ⟨hi, x1, x2, x3, x4, x5, x6, x7, x8, rfl⟩
    have hi0 := hi i List.mem_cons_self
    push_cast [L2_law]
    refine kettle_wp (by omega) (by omega) fun a b hb0 hb1 => ?_
    push_cast
    have hK : Ket (S2 ++ [⟨true, .lst [.int a, .int b, .int 0]⟩]) S2.length 0 := ⟨a, b, 0, by simp, hb0, hb1, Int.le_refl _, Int.le_refl _⟩
    have turns : ∀ n : Int, (n = 1 ∨ n = 3) → wpo (range1 [.int n]) (S2 ++ [⟨true, .lst [.int a, .int b, .int 0]⟩]) fun items S =>
        wo (forD (Pat.nm 3) L1_law items [some (D.lst (List.map D.int ns)), some (D.int ↑i), some (D.ref (List.length S2)), x3, x4, x5, x6, x7, x8, none] S)
          (fun ρ S2 => (∀ (k : Nat), k ∈ r → k < 8) ∧ ∃ x1 x2 x3 x4 x5 x6 x7 x8, ρ = [some (D.lst (List.map D.int ns)), x1, x2, x3, x4, x5, x6, x7, x8, none])
          (fun d S1 => wret 0 S1 d fun d x => d = D.bl true) fun x x_1 S1 => noE x (List.take 0 S1) := fun n hn => by
      push_cast [w_rangeI (show 0 ≤ n by omega) (show n ≤ (sizeLine : Nat) by omega)]
      refine for_wp (fun k : Nat => D.int k) (fun r3 ρ S3 => r3.length ≤ 3 ∧ Ket S3 S2.length (10 ^ 6 * (3 - r3.length)) ∧ ∃ x3 x4 x5 x6 x7 x8, ρ = [some (.lst (ns.map .int)), some (.int i), some (.ref S2.length), x3, x4, x5, x6, x7, x8, none]) ?_ ?_ (List.range n.toNat) _ _ ⟨by simp; omega, hK.mono (by omega), _, _, _, _, _, _, rfl⟩
      · rintro j r3 ρ S3 ⟨hl3, hp, x3, x4, x5, x6, x7, x8, rfl⟩
        simp only [List.length_cons] at hl3 hp
        push_cast
        refine body_wp hp (by omega) fun S4 x4 x5 x6 x7 x8 hp => ⟨by omega, hp.mono (by omega), _, _, _, _, _, _, rfl⟩
      · rintro ρ S3 ⟨hl3, hp, x3, x4, x5, x6, x7, x8, rfl⟩
        exact ⟨fun k hk => hi k (List.mem_cons_of_mem _ hk), _, _, _, _, _, _, _, _, rfl⟩
    have hix : (if decide ((i : Int) = 0) = true then (1 : Int) else 0) = 0 ∨ (if decide ((i : Int) = 0) = true then (1 : Int) else 0) = 1 := by split <;> simp
    rcases hix with e | e
    · rw [e]
      push_cast
      exact turns 1 (.inl rfl)
    · rw [e]
      push_cast
      exact turns 3 (.inr rfl)
  · rintro ρ S2 ⟨_, x1, x2, x3, x4, x5, x6, x7, x8, rfl⟩
    push_cast
    refine kettle_wp (by omega) (by omega) fun a b hb0 hb1 => ?_
    push_cast
    have hK : Ket (S2 ++ [⟨true, .lst [.int a, .int b, .int 0]⟩]) S2.length 0 := ⟨a, b, 0, by simp, hb0, hb1, Int.le_refl _, Int.le_refl _⟩
    refine wide_wp hK (by decide) fun l S3 lo l0 ld ls hp hf => ?_
    have g : PG 6 2 l := pg_of (by decide) (by decide) (by decide) (by decide) lo ld (by omega)
    have hlens : lens l ≤ 7680 := by
      have h1 := lens_le (w := 6) (h := 2) (by decide) (by decide) 5 l ld lo
      omega
    have hlen := rdss_len (dps l) l (Nat.le_refl _) lo
    have hlog : ∀ i ∈ rdss l, logOk i := fun i hi => by
      have := log_reads (by decide) (dps l) l (Nat.le_refl _) lo i hi
      exact logOk_le this.1 (by omega)
    have hpos := len_one_pos (dps l) l (Nat.le_refl _) lo l0
    have hne : ∀ T : Cells, dNe (.lst ((rdss l).map .int)) (.lst ((rdss l).map .int)) T = some (.bl false) := fun T => dNe_same (gdI hlog) (by decide)
    push_cast [made_ok g ls, reads_ok g.hh 8 l (by omega) lo (by omega), written_ok g (by omega), hne, w_rangeI (i := 60) (by decide) (by omega)]
    refine for_wp (fun k : Nat => D.int k) (fun r3 ρ S3 => r3.length ≤ 60 ∧ Ket S3 S2.length (10 ^ 6 + (60 - r3.length)) ∧ ∃ x3 x8, ρ = [some (.lst (ns.map .int)), x1, some (.ref S2.length), x3, some (.lst (l.map eL)), some (prog l), some (.lst ((rdss l).map .int)), x7, x8, none]) ?_ ?_ (List.range (Int.toNat 60)) _ _ ⟨by decide, hp.mono (by omega), _, _, rfl⟩
    · rintro j r3 ρ S4 ⟨hl3, hp, x3, x8, rfl⟩
      simp only [List.length_cons] at hl3 hp
      push_cast [L3_law, List.length_map]
      refine scoop_wp0 hp (by omega) (by omega) (by omega) fun v S5 v0 v1 hp hf5 => ?_
      obtain ⟨v, rfl⟩ := Int.eq_ofNat_of_zero_le v0
      have hget : (rdss l)[v]? = some ((rdss l).getD v 0) := by rw [List.getD_eq_getElem?_getD, List.getElem?_eq_getElem (by omega)]; rfl
      push_cast [address_at_ok g (i := v) (by omega), wAt_map (enc := D.int) (k := (v : Int)) rfl hget, decide_true]
      exact ⟨by omega, hp.mono (by omega), _, _, rfl⟩
    · rintro ρ S4 ⟨hl3, hp, x3, x8, rfl⟩
      have g1 : PG 100 100 [.rp [.sc 0 99] 100] := pg_of (by decide) (by decide) (by decide) (by decide) (by rw [oks_one, ok, oks_one, ok]; decide) (by rw [dps_one, dp, dps_one, dp]; decide) (by rw [scss_one, scs, scss_one, scs]; decide)
      have g2 : PG 100 100 [] := pg_of (by decide) (by decide) (by decide) (by decide) (by rw [oks]; trivial) (by rw [dps]; decide) (by rw [scss]; decide)
      have g3 : PG 100 100 [.sc 2 0, .sc 5 5] := pg_of (by decide) (by decide) (by decide) (by decide) (by rw [oks, oks_one, ok, ok]; decide) (by rw [dps, dps_one, dp, dp]; decide) (by rw [scss, scss_one, scs, scs]; decide)
      have m1 : ∀ S, makeD NMf 1 2 g_Program___init__ [.str "( 0-99 )100"] S = .ok (prog [.rp [.sc 0 99] 100]) S := fun S => by
        have := made_prog (S := S) g1 (by rw [scss_one, scs, scss_one, scs]; decide)
        rwa [show Str.join (ch 32) (wdss [.rp [.sc 0 99] 100]) = "( 0-99 )100" by kernel_rfl] at this
      have m2 : ∀ S, makeD NMf 1 2 g_Program___init__ [.str ""] S = .ok (prog []) S := fun S => by
        have := made_prog (S := S) g2 (by rw [scss]; decide)
        rwa [show Str.join (ch 32) (wdss []) = "" by kernel_rfl] at this
      have m3 : ∀ S, makeD NMf 1 2 g_Program___init__ [.str "2-0 5"] S = .ok (prog [.sc 2 0, .sc 5 5]) S := fun S => by
        have := made_prog (S := S) g3 (by rw [scss, scss_one, scs, scs]; decide)
        rwa [show Str.join (ch 32) (wdss [.sc 2 0, .sc 5 5]) = "2-0 5" by kernel_rfl] at this
      have l1 : lens [.rp [.sc 0 99] 100] = 10000 := by kernel_rfl
      have l3 : lens [.sc 2 0, .sc 5 5] = 4 := by kernel_rfl
      have r3 : (rdss [.sc 2 0, .sc 5 5]).map D.int = [.int 2, .int 1, .int 0, .int 5] := by kernel_rfl
      have r2 : (rdss []).map D.int = [] := by kernel_rfl
      have e1 := rdss_len (w := 100) (h := 100) 1 [.rp [.sc 0 99] 100] (by rw [dps_one, dp, dps_one, dp]; decide) g1.k
      have hlog1 : ∀ i ∈ rdss [.rp [.sc 0 99] 100], logOk i := fun i hi => by
        have := log_reads (by decide) _ _ (Nat.le_refl _) g1.k i hi
        exact logOk_le this.1 (by omega)
      have n1 : ∀ T : Cells, dNe (.lst ((rdss [.rp [.sc 0 99] 100]).map .int)) (.lst ((rdss [.rp [.sc 0 99] 100]).map .int)) T = some (.bl false) := fun T => dNe_same (gdI hlog1) (by decide)
      have er : rangeA [.int 100] = some ((scn 0 99).map D.int) := by kernel_rfl
      have ef : (List.replicate (Int.toNat 100) ((scn 0 99).map D.int)).flatten = (rdss [.rp [.sc 0 99] 100]).map D.int := by
        rw [rdss_one, rds, rdss_one, rds, List.map_flatten, List.map_replicate]
      have z1 : (scn 0 99).length = 100 := by kernel_rfl
      have ee : ∀ T, dEq (.lst [.int 10000, .lst [], .lst [.int 2, .int 1, .int 0, .int 5]]) (.lst [.int 10000, .lst [], .lst [.int 2, .int 1, .int 0, .int 5]]) T = some (.bl true) := fun _ => by kernel_rfl
      have l10 : (((rdss [.rp [.sc 0 99] 100]).length : Nat) : Int) = 10000 := by rw [e1, l1]
      push_cast [m1, m2, m3, written_ok g1 (show lens [.rp [.sc 0 99] 100] ≤ 10000 by omega), written_ok g2 (show lens [] ≤ 10000 by rw [lens]; decide), written_ok g3 (show lens [.sc 2 0, .sc 5 5] ≤ 10000 by omega), er, ef, n1, r2, r3, z1, List.length_map, l10, ee]
      exact ⟨by decide, by rw [zz]; decide⟩
end

end K26
end
section
set_option maxHeartbeats 0
namespace K26
open PySem PySem.Spec L2 DL
open PyProof.Rows hiding St
/-! ### the head -/
def nm0 : List Str := ["_wall", "ScanError", "InvalidText", "TooLarge", "InvalidProgram", "InvalidNumber", "InvalidIndex", "is_int", "in_range", "require_index", "require_number", "size_of", "MOST_NUMBER", "MOST_SCANS", "MOST_OPEN", "PART_DIGITS", "PART", "number_in", "scan_in", "read_nodes", "digits_of", "words_of", "scans_in", "accesses_in", "turned_nodes", "repeated_nodes", "Nodes", "Program", "program_of", "require_program"]
def nm1 : List Str := ["MOST_WRITTEN", "step_of", "address_in", "listed", "written", "address_at", "_law_kettle", "_law_scoop", "_law_scans", "_law_nodes", "_law_length", "_law_small", "_law_words", "_law_made", "_law_reads", "_law_few", "_law_wide"]
def nms : List Str := nm0 ++ nm1
abbrev R : PySem.W.OpenRow := PySem.W.OpenLaw.row PySem.Challenge.rw_scanmisses_k26_accesses_by_index
abbrev hk : PySem.W.Hook := hookW 6 fa pr op bn xf fn
def ob (s : PySem.W.SharedT) : AlQ := obsWG 6 fa pr op bn xf fn (HandSHeadRun.getT s)
theorem ob_eq (s : PySem.W.SharedT) : ob s = hk.obs s.abs := obsWG_eq (HandSHeadRun.getT_eq s)
set_option maxHeartbeats 0 in
theorem run (w : World) : HandSHeadRun.RunEq R (PySem.W.view R.prog [53]) hk ob 4420 nms w := by
  intro os
  kernel_rfl
theorem facts {P : Program} {w : World} {K : PySem.W.Frag} {h : Heap} {mg : Str → Option Value} {f : Addr} (X : K.In h) (G : h.Ns mainGlobals mg) (hfa : mg ("law" : Str) = some (.ref f)) (c : SaysW fa pr op bn xf fn K) :
    ∃ (K' : PySem.W.Frag) (fd : FuncData) (T : Tab), K'.In h ∧ (∀ (s : Shared) (v : Value), BindsTo s fd ⟨[v], []⟩ [("script", v)]) ∧ ∀ base : Heap, K'.In base → base.Ns mainGlobals mg → FnG P w K' mg base 19 f fd ["script"] (spD K' T 1 g_law) := by
  obtain ⟨fd, F⟩ := c.def_ 29 (d := d_law) rfl
  have e := hfa.symm.trans (He.glo_ok X G (c.fact 32 (f := .glo "law") rfl))
  cases e
  have b := FunD.bindsA (ps := ["script"]) F fun _ _ _ _ _ _ us hl => match us, hl with | [_], _ => rfl
  refine ⟨K, fd, TT K, X, fun s v => b s [v] rfl, fun base _ _ => ?_⟩
  exact fnG_law X G c fd F
end K26
open PySem PySem.W PySem.Calls PyProof.Rows
theorem PySem.Challenge.cw_scanmisses_k26_accesses_by_index_holds : PySem.Challenge.rw_scanmisses_k26_accesses_by_index.Holds := by
  w_on; o_law
  refine HandSHeadRun.head_any (r := OpenLaw.row PySem.Challenge.rw_scanmisses_k26_accesses_by_index) (q := view (OpenLaw.row PySem.Challenge.rw_scanmisses_k26_accesses_by_index).prog [53]) (H := K26.hk) (ob := K26.ob) (M := 4420) (loose := K26.nms) (d := HandSHeadRun.topDef (OpenLaw.row PySem.Challenge.rw_scanmisses_k26_accesses_by_index).prog 53) (kwd := []) K26.ob_eq
    (by kernel_rfl) (fun s => by kernel_rfl) K26.run (by kernel_rfl) (by kernel_rfl) (by kernel_rfl) (by rfl) (by first | assumption | decide +kernel) (by decide +kernel) ⟨rfl, rfl, rfl, rfl, rfl, by decide +kernel⟩ ?hw ?hc
  case hw => w_witness2
  case hc =>
    refine DL.walk_D (l := PySem.Challenge.rw_scanmisses_k26_accesses_by_index) (n := 63) (k := 19) (x := "script") (g := K26.g_law) rfl (by decide) (by kernel_rfl) ⟨rfl, by decide, by decide⟩ ?F K26.law_true
    intro w mg fa h Y G hmg0
    obtain ⟨K, KX, c⟩ := Y
    have hmg : mg ("law" : PySem.Str) = some (.ref fa) := by
      have e : (HandSHeadRun.topDef (OpenLaw.row PySem.Challenge.rw_scanmisses_k26_accesses_by_index).prog 53).name = ("law" : PySem.Str) := by kernel_rfl
      rw [← e]
      exact hmg0
    exact K26.facts (P := (PySem.Challenge.rw_scanmisses_k26_accesses_by_index).prog) (w := w) KX G hmg c
end
