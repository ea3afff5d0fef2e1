import PyProof.Rows.All
import Wide.All
import OpenK.AllK
import Wide.FinOn
import HandS.ForMost
import HandS.Walk
import HandS.Flow
import HandS.Defaults
import HandS.TupAny
import HandS.TupLe
import HandS.IsInst
import HandS.Wide
import HandS.SortInts
import HandS.SortRule
import HandS.Style
import HandS.Conv
import HandS.SetFor
import HandS.Strs
import KE.DatumOrd
import KE.DatumMoreOrd
import PyProof.ReprReads
import HandS.More
import HandS.Ends
import HandS.Head0
import HandS.Head1
import HandS.Head2
import HandS.HeadEnd
import HandS.HeadHook1
import HandS.HeadHook2
import HandS.Deep
import HandS.Property
import HandS.Star
import KE.KOpsOwn
import KE.KCallOwn
import KE.DataEq
import PyProof.StrLawsRepr
import PySem.Challenge.RW_scanmisses_k15_profiles_added_and_multip
set_option Elab.async false
set_option linter.all false
set_option maxRecDepth 100000
section
set_option maxHeartbeats 2000000
/-! DLa: data D over the abstract heap: what stands for what, cells (lists and instances that change), and how they are kept. -/
namespace DL
open PySem PySem.Spec PyProof.Rows L2

/-- Python's data as trees; ref: a cell of the store; obj: an instance that does not change any more -/
inductive D where
  | non | bl (b : Bool) | int (i : Int) | str (x : Str)
  | tup (l : List D) | lst (l : List D) | ref (n : Nat) | obj (c : Nat) (l : List D)
/-- what a cell holds -/
inductive CC where
  | lst (l : List D) | ins (k : Nat) (fs : List (Str × D))
structure Cell where
  live : Bool
  c : CC
abbrev Cells := List Cell
/-- an exception: its class by number, its one argument -/
structure Xc where
  cls : Nat
  arg : Option D
inductive R (α : Type) where
  | ok (a : α) (S : Cells) | err (x : Xc) (S : Cells) | stuck
abbrev M (α : Type) := Cells → R α
def M.pure {α : Type} (a : α) : M α := fun S => .ok a S
def M.bind {α β : Type} (f : M α) (g : α → M β) : M β := fun S => match f S with
  | .ok a S' => g a S'
  | .err x S' => .err x S'
  | .stuck => .stuck
def stuck {α : Type} : M α := fun _ => .stuck

/-- classes by number: where they stand, their attributes' names -/
structure Tab where
  C : Nat → Addr
  N : Nat → List Str

mutual
inductive Rp (K : PySem.W.Frag) (T : Tab) (γ : List Addr) (F : Hp) : D → V → Prop
  | non : Rp K T γ F .non .non
  | bl (b : Bool) : Rp K T γ F (.bl b) (.bl b)
  | int (i : Int) : Rp K T γ F (.int i) (.int i)
  | str (x : Str) : x.length ≤ sizeLine → Rp K T γ F (.str x) (.str x)
  | lst {a : Addr} {ds : List D} {vs : List V} : SqL K F a vs → ds.length ≤ sizeLine → RpL K T γ F ds vs → Rp K T γ F (.lst ds) (.ref a)
  | tup {a : Addr} {ds : List D} {vs : List V} : SqT K F a vs → ds.length ≤ sizeLine → RpL K T γ F ds vs → Rp K T γ F (.tup ds) (.ref a)
  | ref {n : Nat} {a : Addr} : γ[n]? = some a → Rp K T γ F (.ref n) (.ref a)
  | obj {a dx : Addr} {c : Nat} {ds : List D} {vs : List V} : F a = some (.ins (T.C c) dx ((T.N c).zip vs)) → vs.length = (T.N c).length → RpL K T γ F ds vs → Rp K T γ F (.obj c ds) (.ref a)
inductive RpL (K : PySem.W.Frag) (T : Tab) (γ : List Addr) (F : Hp) : List D → List V → Prop
  | nil : RpL K T γ F [] []
  | cons {d : D} {ds : List D} {v : V} {vs : List V} : Rp K T γ F d v → RpL K T γ F ds vs → RpL K T γ F (d :: ds) (v :: vs)
end

section
variable {K : PySem.W.Frag} {T : Tab} {γ γ' : List Addr} {F F' : Hp}
theorem same_seqT {H H' : Hp} {a : Addr} {xs : List V} (e : Same H H') (h : SqT K H a xs) : SqT K H' a xs := by
  rcases h with (h | ⟨o, h⟩) | h
  · exact .inl (.inl (e _ _ h))
  · exact .inl (.inr ⟨o, e _ _ h⟩)
  · exact .inr h
mutual
theorem Rp.mono (hg : ∀ (n : Nat) (a : Addr), γ[n]? = some a → γ'[n]? = some a) (hs : Same F F') : ∀ (d : D) (v : V), Rp K T γ F d v → Rp K T γ' F' d v
  | .non, _, h => by cases h; exact .non
  | .bl _, _, h => by cases h; exact .bl _
  | .int _, _, h => by cases h; exact .int _
  | .str _, _, h => by cases h with | str x z => exact .str _ z
  | .lst ds, _, h => by cases h with | lst a z b => exact .lst (hs.seq a) z (RpL.mono hg hs ds _ b)
  | .tup ds, _, h => by cases h with | tup a z b => exact .tup (same_seqT hs a) z (RpL.mono hg hs ds _ b)
  | .ref n, _, h => by cases h with | ref a => exact .ref (hg _ _ a)
  | .obj c ds, _, h => by cases h with | obj a b e => exact .obj (hs _ _ a) b (RpL.mono hg hs ds _ e)
theorem RpL.mono (hg : ∀ (n : Nat) (a : Addr), γ[n]? = some a → γ'[n]? = some a) (hs : Same F F') : ∀ (ds : List D) (vs : List V), RpL K T γ F ds vs → RpL K T γ' F' ds vs
  | [], _, h => by cases h; exact .nil
  | d :: ds, _, h => by cases h with | cons a b => exact .cons (Rp.mono hg hs d _ a) (RpL.mono hg hs ds _ b)
end
theorem RpL.length : ∀ {ds : List D} {vs : List V}, RpL K T γ F ds vs → ds.length = vs.length
  | [], _, h => by cases h; rfl
  | d :: ds, _, h => by cases h with | cons a b => simp [RpL.length b]
theorem RpL.get : ∀ {ds : List D} {vs : List V} {i : Nat} {d : D}, RpL K T γ F ds vs → ds[i]? = some d → ∃ v, vs[i]? = some v ∧ Rp K T γ F d v
  | [], _, _, _, _, h => by simp at h
  | d :: ds, _, 0, _, h, e => by
    cases h with
    | cons a b =>
      rw [List.getElem?_cons_zero] at e
      cases e
      exact ⟨_, rfl, a⟩
  | d :: ds, _, i + 1, _, h, e => by
    cases h with
    | cons a b => exact RpL.get b (i := i) (by simpa using e)
theorem RpL.get' : ∀ {ds : List D} {vs : List V} {i : Nat} {v : V}, RpL K T γ F ds vs → vs[i]? = some v → ∃ d, ds[i]? = some d ∧ Rp K T γ F d v := by
  intro ds vs i v h e
  have hl := h.length
  have hi : i < ds.length := by
    have := (List.getElem?_eq_some_iff.mp e).1
    omega
  obtain ⟨v', e', r⟩ := h.get (List.getElem?_eq_getElem hi)
  rw [e] at e'
  cases e'
  exact ⟨_, List.getElem?_eq_getElem hi, r⟩
theorem RpL.append : ∀ {ds es : List D} {vs ws : List V}, RpL K T γ F ds vs → RpL K T γ F es ws → RpL K T γ F (ds ++ es) (vs ++ ws)
  | [], _, _, _, h, q => by cases h; exact q
  | d :: ds, _, _, _, h, q => by cases h with | cons a b => exact .cons a (RpL.append b q)
theorem RpL.one {d : D} {v : V} (h : Rp K T γ F d v) : RpL K T γ F [d] [v] := .cons h .nil
theorem RpL.take : ∀ {ds : List D} {vs : List V} (n : Nat), RpL K T γ F ds vs → RpL K T γ F (ds.take n) (vs.take n)
  | _, _, 0, _ => .nil
  | [], _, _ + 1, h => by cases h; exact .nil
  | d :: ds, _, n + 1, h => by cases h with | cons a b => exact .cons a (RpL.take n b)
theorem RpL.drop : ∀ {ds : List D} {vs : List V} (n : Nat), RpL K T γ F ds vs → RpL K T γ F (ds.drop n) (vs.drop n)
  | _, _, 0, h => h
  | [], _, _ + 1, h => by cases h; exact .nil
  | d :: ds, _, n + 1, h => by cases h with | cons a b => exact RpL.drop n b
theorem RpL.set {d : D} {v : V} (r : Rp K T γ F d v) : ∀ {ds : List D} {vs : List V} (i : Nat), RpL K T γ F ds vs → RpL K T γ F (ds.set i d) (vs.set i v)
  | [], _, _, h => by cases h; exact .nil
  | e :: ds, _, 0, h => by cases h with | cons a b => exact .cons r b
  | e :: ds, _, i + 1, h => by cases h with | cons a b => exact .cons a (RpL.set r i b)
theorem RpL.eraseIdx : ∀ {ds : List D} {vs : List V} (i : Nat), RpL K T γ F ds vs → RpL K T γ F (ds.eraseIdx i) (vs.eraseIdx i)
  | [], _, _, h => by cases h; exact .nil
  | e :: ds, _, 0, h => by cases h with | cons a b => exact b
  | e :: ds, _, i + 1, h => by cases h with | cons a b => exact .cons a (RpL.eraseIdx i b)
theorem RpL.reverse {ds : List D} {vs : List V} (h : RpL K T γ F ds vs) : RpL K T γ F ds.reverse vs.reverse := by
  induction ds generalizing vs with
  | nil => cases h; exact .nil
  | cons d ds ih =>
    cases h with
    | cons a b =>
      rw [List.reverse_cons, List.reverse_cons]
      exact (ih b).append (.one a)
theorem RpL.flatten (n : Nat) {ds : List D} {vs : List V} (h : RpL K T γ F ds vs) : RpL K T γ F (List.replicate n ds).flatten (List.replicate n vs).flatten := by
  induction n with
  | zero => exact .nil
  | succ n ih =>
    rw [List.replicate_succ, List.replicate_succ, List.flatten_cons, List.flatten_cons]
    exact h.append ih
theorem RpL.insertIdx {d : D} {v : V} (r : Rp K T γ F d v) : ∀ {ds : List D} {vs : List V} (i : Nat), RpL K T γ F ds vs → RpL K T γ F (ds.insertIdx i d) (vs.insertIdx i v)
  | ds, vs, 0, h => by
    rw [List.insertIdx_zero, List.insertIdx_zero]
    exact .cons r h
  | [], _, i + 1, h => by
    cases h
    rw [List.insertIdx_succ_nil, List.insertIdx_succ_nil]
    exact .nil
  | e :: ds, _, i + 1, h => by
    cases h with
    | cons a b =>
      rw [List.insertIdx_succ_cons, List.insertIdx_succ_cons]
      exact .cons a (RpL.insertIdx r i b)
/-- the ints of a list -/
def ints? : List D → Option (List Int)
  | [] => some []
  | .int i :: r => (ints? r).map (i :: ·)
  | _ => none
theorem ints?_map (ns : List Int) : ints? (ns.map .int) = some ns := by
  induction ns with
  | nil => rfl
  | cons n ns ih => rw [List.map_cons]; show (ints? _).map _ = _; rw [ih]; rfl
theorem ints?_rep : ∀ {ds : List D} {vs : List V} {ns : List Int}, RpL K T γ F ds vs → ints? ds = some ns → vs = ns.map V.int ∧ ds = ns.map D.int
  | [], _, ns, h, e => by
    cases h
    cases e
    exact ⟨rfl, rfl⟩
  | .int i :: ds, _, ns, h, e => by
    cases h with
    | cons a b =>
      cases a
      have e' : (ints? ds).map (i :: ·) = some ns := e
      cases q : ints? ds with
      | none => rw [q] at e'; cases e'
      | some ms =>
        rw [q] at e'
        cases e'
        obtain ⟨h1, h2⟩ := ints?_rep b q
        rw [h1, h2]
        exact ⟨rfl, rfl⟩
  | .non :: ds, _, ns, h, e => nomatch e
  | .bl _ :: ds, _, ns, h, e => nomatch e
  | .str _ :: ds, _, ns, h, e => nomatch e
  | .tup _ :: ds, _, ns, h, e => nomatch e
  | .lst _ :: ds, _, ns, h, e => nomatch e
  | .ref _ :: ds, _, ns, h, e => nomatch e
  | .obj _ _ :: ds, _, ns, h, e => nomatch e
theorem rep_ints : ∀ (ns : List Int), RpL K T γ F (ns.map D.int) (ns.map V.int)
  | [] => .nil
  | n :: ns => .cons (.int n) (rep_ints ns)
/-- the bools of a list -/
def bls? : List D → Option (List Bool)
  | [] => some []
  | .bl i :: r => (bls? r).map (i :: ·)
  | _ => none
theorem bls?_map (ns : List Bool) : bls? (ns.map .bl) = some ns := by
  induction ns with
  | nil => rfl
  | cons n ns ih => rw [List.map_cons]; show (bls? _).map _ = _; rw [ih]; rfl
theorem bls?_rep : ∀ {ds : List D} {vs : List V} {ns : List Bool}, RpL K T γ F ds vs → bls? ds = some ns → vs = ns.map V.bl ∧ ds = ns.map D.bl
  | [], _, ns, h, e => by
    cases h
    cases e
    exact ⟨rfl, rfl⟩
  | .bl i :: ds, _, ns, h, e => by
    cases h with
    | cons a b =>
      cases a
      have e' : (bls? ds).map (i :: ·) = some ns := e
      cases q : bls? ds with
      | none => rw [q] at e'; cases e'
      | some ms =>
        rw [q] at e'
        cases e'
        obtain ⟨h1, h2⟩ := bls?_rep b q
        rw [h1, h2]
        exact ⟨rfl, rfl⟩
  | .non :: ds, _, ns, h, e => nomatch e
  | .int _ :: ds, _, ns, h, e => nomatch e
  | .str _ :: ds, _, ns, h, e => nomatch e
  | .tup _ :: ds, _, ns, h, e => nomatch e
  | .lst _ :: ds, _, ns, h, e => nomatch e
  | .ref _ :: ds, _, ns, h, e => nomatch e
  | .obj _ _ :: ds, _, ns, h, e => nomatch e
/-- no cell is named in it -/
def D.flat : D → Bool
  | .ref _ => false
  | .lst l => l.attach.all fun ⟨d, _⟩ => d.flat
  | .tup l => l.attach.all fun ⟨d, _⟩ => d.flat
  | .obj _ l => l.attach.all fun ⟨d, _⟩ => d.flat
  | _ => true
def flatL (l : List D) : Bool := l.all D.flat
theorem flat_lst (l : List D) : (D.lst l).flat = flatL l := by
  unfold D.flat flatL
  simp
theorem flat_tup (l : List D) : (D.tup l).flat = flatL l := by
  unfold D.flat flatL
  simp
theorem flat_obj (c : Nat) (l : List D) : (D.obj c l).flat = flatL l := by
  unfold D.flat flatL
  simp
@[simp] theorem flat_non : D.non.flat = true := by simp [D.flat]
@[simp] theorem flat_bl (b : Bool) : (D.bl b).flat = true := by simp [D.flat]
@[simp] theorem flat_int (b : Int) : (D.int b).flat = true := by simp [D.flat]
@[simp] theorem flat_str (b : Str) : (D.str b).flat = true := by simp [D.flat]
@[simp] theorem flat_ref (b : Nat) : (D.ref b).flat = false := by simp [D.flat]
theorem flatL_cons (d : D) (l : List D) : flatL (d :: l) = (d.flat && flatL l) := rfl
mutual
theorem Rp.toflat : ∀ (d : D) (v : V), d.flat = true → Rp K T γ F d v → Rp K T [] F d v
  | .non, _, _, h => by cases h; exact .non
  | .bl _, _, _, h => by cases h; exact .bl _
  | .int _, _, _, h => by cases h; exact .int _
  | .str _, _, _, h => by cases h with | str x z => exact .str _ z
  | .lst ds, _, f, h => by cases h with | lst a z b => exact .lst a z (RpL.toflat ds _ (by rw [flat_lst] at f; exact f) b)
  | .tup ds, _, f, h => by cases h with | tup a z b => exact .tup a z (RpL.toflat ds _ (by rw [flat_tup] at f; exact f) b)
  | .ref n, _, f, h => by simp at f
  | .obj c ds, _, f, h => by cases h with | obj a b e => exact .obj a b (RpL.toflat ds _ (by rw [flat_obj] at f; exact f) e)
theorem RpL.toflat : ∀ (ds : List D) (vs : List V), flatL ds = true → RpL K T γ F ds vs → RpL K T [] F ds vs
  | [], _, _, h => by cases h; exact .nil
  | d :: ds, _, f, h => by
    rw [flatL_cons, Bool.and_eq_true] at f
    cases h with | cons a b => exact .cons (Rp.toflat d _ f.1 a) (RpL.toflat ds _ f.2 b)
end
theorem Rp.nil_any (hs : Same F F') {d : D} {v : V} (h : Rp K T [] F d v) : Rp K T γ F' d v := Rp.mono (by simp) hs d v h
theorem RpL.nil_any (hs : Same F F') {d : List D} {v : List V} (h : RpL K T [] F d v) : RpL K T γ F' d v := RpL.mono (by simp) hs d v h
mutual
theorem Rp.nilflat : ∀ (d : D) (v : V), Rp K T [] F d v → d.flat = true
  | .non, _, h => by simp
  | .bl _, _, h => by simp
  | .int _, _, h => by simp
  | .str _, _, h => by simp
  | .lst ds, _, h => by cases h with | lst a z b => rw [flat_lst]; exact RpL.nilflat ds _ b
  | .tup ds, _, h => by cases h with | tup a z b => rw [flat_tup]; exact RpL.nilflat ds _ b
  | .ref n, _, h => by cases h with | ref a => simp at a
  | .obj c ds, _, h => by cases h with | obj a b e => rw [flat_obj]; exact RpL.nilflat ds _ e
theorem RpL.nilflat : ∀ (ds : List D) (vs : List V), RpL K T [] F ds vs → flatL ds = true
  | [], _, _ => rfl
  | d :: ds, _, h => by
    cases h with | cons a b => rw [flatL_cons, Rp.nilflat d _ a, RpL.nilflat ds _ b]; rfl
end
end

/-! ### the store -/
def liveAt (γ : List Addr) (S : Cells) (b : Addr) : Bool := (γ.zip S).any fun p => decide (p.1 = b) && p.2.live
theorem liveAt_iff {γ : List Addr} {S : Cells} {b : Addr} : liveAt γ S b = true ↔ ∃ (n : Nat) (c : Cell), γ[n]? = some b ∧ S[n]? = some c ∧ c.live = true := by
  unfold liveAt
  rw [List.any_eq_true]
  constructor
  · rintro ⟨p, hp, h⟩
    obtain ⟨n, hn⟩ := List.mem_iff_getElem?.mp hp
    rw [List.getElem?_zip_eq_some] at hn
    simp only [Bool.and_eq_true, decide_eq_true_eq] at h
    exact ⟨n, p.2, by rw [hn.1, h.1], hn.2, h.2⟩
  · rintro ⟨n, c, h1, h2, h3⟩
    refine ⟨(b, c), List.mem_iff_getElem?.mpr ⟨n, ?_⟩, by simp [h3]⟩
    rw [List.getElem?_zip_eq_some]
    exact ⟨h1, h2⟩
/-- the heap without the live cells and what is hidden -/
def out (γ : List Addr) (S : Cells) (hid : List Addr) (H : Hp) : Hp := fun b => if (decide (b ∈ hid) || liveAt γ S b) = true then none else H b
theorem out_sub (γ : List Addr) (S : Cells) (hid : List Addr) (H : Hp) : Same (out γ S hid H) H := fun b o h => by
  unfold out at h
  split at h
  · cases h
  · exact h
theorem out_some {γ : List Addr} {S : Cells} {hid : List Addr} {H : Hp} {b : Addr} {o : HO} : out γ S hid H b = some o ↔ b ∉ hid ∧ liveAt γ S b = false ∧ H b = some o := by
  unfold out
  by_cases h1 : b ∈ hid
  · simp [h1]
  · cases h2 : liveAt γ S b <;> simp [h1]
/-- what a cell's object is -/
inductive CRep (K : PySem.W.Frag) (T : Tab) (F : Hp) : CC → HO → Prop
  | lst {l : List D} {vs : List V} : l.length ≤ sizeLine → RpL K T [] F l vs → CRep K T F (.lst l) (.lst vs)
  | ins {k : Nat} {dx : Addr} {fs : List (Str × D)} {gs : List (Str × V)} : fs.map (·.1) = gs.map (·.1) → RpL K T [] F (fs.map (·.2)) (gs.map (·.2)) → CRep K T F (.ins k fs) (.ins (T.C k) dx gs)
theorem CRep.mono {K : PySem.W.Frag} {T : Tab} {F F' : Hp} {c : CC} {o : HO} (hs : Same F F') (h : CRep K T F c o) : CRep K T F' c o := by
  cases h with
  | lst z r => exact .lst z (r.nil_any hs)
  | ins e r => exact .ins e (r.nil_any hs)
structure Hold (K : PySem.W.Frag) (T : Tab) (γ hid : List Addr) (S : Cells) (H : Hp) : Prop where
  len : γ.length = S.length
  nd : γ.Nodup
  cell : ∀ (n : Nat) (a : Addr) (c : Cell), γ[n]? = some a → S[n]? = some c → ∃ o, H a = some o ∧ CRep K T (out γ S hid H) c.c o
  hidT : ∀ a ∈ hid, H a ≠ none
  hidG : ∀ a ∈ hid, a ∉ γ
structure Ext (γ : List Addr) (S : Cells) (H : Hp) (γ' : List Addr) (S' : Cells) (H' : Hp) : Prop where
  pre : ∀ (n : Nat) (a : Addr), γ[n]? = some a → γ'[n]? = some a
  same : Same (out γ S [] H) (out γ' S' [] H')
theorem Ext.refl (γ : List Addr) (S : Cells) (H : Hp) : Ext γ S H γ S H := ⟨fun _ _ h => h, Same.refl _⟩
theorem Ext.trans {γ γ1 γ2 : List Addr} {S S1 S2 : Cells} {H H1 H2 : Hp} (a : Ext γ S H γ1 S1 H1) (b : Ext γ1 S1 H1 γ2 S2 H2) : Ext γ S H γ2 S2 H2 :=
  ⟨fun n x h => b.pre n x (a.pre n x h), a.same.trans b.same⟩
theorem Ext.sameH {γ γ' : List Addr} {S S' : Cells} {H H' : Hp} (e : Ext γ S H γ' S' H') (hid : List Addr) : Same (out γ S hid H) (out γ' S' hid H') := fun b o h => by
  obtain ⟨h1, h2, h3⟩ := out_some.mp h
  obtain ⟨_, q2, q3⟩ := out_some.mp (e.same b o (out_some.mpr ⟨by simp, h2, h3⟩))
  exact out_some.mpr ⟨h1, q2, q3⟩
theorem Ext.rp {K : PySem.W.Frag} {T : Tab} {γ γ' hid : List Addr} {S S' : Cells} {H H' : Hp} (e : Ext γ S H γ' S' H') {d : D} {v : V} (h : Rp K T γ (out γ S hid H) d v) : Rp K T γ' (out γ' S' hid H') d v := Rp.mono e.pre (e.sameH hid) d v h
theorem Ext.rpl {K : PySem.W.Frag} {T : Tab} {γ γ' hid : List Addr} {S S' : Cells} {H H' : Hp} (e : Ext γ S H γ' S' H') {d : List D} {v : List V} (h : RpL K T γ (out γ S hid H) d v) : RpL K T γ' (out γ' S' hid H') d v := RpL.mono e.pre (e.sameH hid) d v h
/-- a hidden thing stays -/
theorem Ext.hid {K : PySem.W.Frag} {T : Tab} {γ γ' hid : List Addr} {S S' : Cells} {H H' : Hp} (e : Ext γ S H γ' S' H') (h : Hold K T γ hid S H) {a : Addr} {o : HO} (ha : a ∈ hid) (ho : H a = some o) : H' a = some o := by
  refine (out_some.mp (e.same a o (out_some.mpr ⟨by simp, ?_, ho⟩))).2.2
  cases q : liveAt γ S a with
  | false => rfl
  | true =>
    obtain ⟨n, c, h1, _, _⟩ := liveAt_iff.mp q
    exact absurd (List.mem_of_getElem? h1) (h.hidG a ha)
section
variable {K : PySem.W.Frag} {T : Tab} {γ hid : List Addr} {S : Cells} {H : Hp}
theorem Hold.at (h : Hold K T γ hid S H) {n : Nat} {c : Cell} (e : S[n]? = some c) : ∃ a, γ[n]? = some a := by
  have : n < γ.length := by
    rw [h.len]
    exact (List.getElem?_eq_some_iff.mp e).1
  exact ⟨_, List.getElem?_eq_getElem this⟩
theorem Hold.at' (h : Hold K T γ hid S H) {n : Nat} {a : Addr} (e : γ[n]? = some a) : ∃ c, S[n]? = some c := by
  have : n < S.length := by
    rw [← h.len]
    exact (List.getElem?_eq_some_iff.mp e).1
  exact ⟨_, List.getElem?_eq_getElem this⟩
theorem nd_ix {α : Type} {l : List α} (h : l.Nodup) {i j : Nat} {x : α} (a : l[i]? = some x) (b : l[j]? = some x) : i = j := by
  obtain ⟨h1, e1⟩ := List.getElem?_eq_some_iff.mp a
  obtain ⟨h2, e2⟩ := List.getElem?_eq_some_iff.mp b
  exact (List.getElem_inj h).mp (e1.trans e2.symm)
theorem Hold.live (h : Hold K T γ hid S H) {n : Nat} {a : Addr} {c : Cell} (e : γ[n]? = some a) (q : S[n]? = some c) : liveAt γ S a = c.live := by
  cases z : c.live with
  | true => exact liveAt_iff.mpr ⟨n, c, e, q, z⟩
  | false =>
    cases z2 : liveAt γ S a with
    | false => rfl
    | true =>
      obtain ⟨m, c', h1, h2, h3⟩ := liveAt_iff.mp z2
      have := nd_ix h.nd e h1
      subst this
      rw [q] at h2
      cases h2
      rw [z] at h3
      cases h3
/-- a new thing that is no cell -/
theorem Hold.fresh (h : Hold K T γ hid S H) {p : Addr} (np : H p = none) : p ∉ γ ∧ p ∉ hid := by
  refine ⟨fun hp => ?_, fun hp => h.hidT p hp np⟩
  obtain ⟨n, hn⟩ := List.mem_iff_getElem?.mp hp
  obtain ⟨c, hc⟩ := h.at' hn
  obtain ⟨o, ho, _⟩ := h.cell n p c hn hc
  rw [np] at ho
  cases ho
theorem live_no {b : Addr} (hb : b ∉ γ) : liveAt γ S b = false := by
  cases q : liveAt γ S b with
  | false => rfl
  | true =>
    obtain ⟨n, c, h1, _, _⟩ := liveAt_iff.mp q
    exact absurd (List.mem_of_getElem? h1) hb
theorem Hold.lay (h : Hold K T γ hid S H) {p : Addr} (np : H p = none) (o : HO) : Hold K T γ hid S (upd H p o) ∧ Ext γ S H γ S (upd H p o) ∧ ∀ hd, p ∉ hd → out γ S hd (upd H p o) p = some o := by
  obtain ⟨h1, h2⟩ := h.fresh np
  have sm : ∀ hd, Same (out γ S hd H) (out γ S hd (upd H p o)) := fun hd b u hb => by
    obtain ⟨a1, a2, a3⟩ := out_some.mp hb
    exact out_some.mpr ⟨a1, a2, by rw [upd_ne (ne_of_none a3 np)]; exact a3⟩
  refine ⟨⟨h.len, h.nd, fun n a c e1 e2 => ?_, fun a ha => ?_, h.hidG⟩, ⟨fun _ _ q => q, sm []⟩, fun hd hp => out_some.mpr ⟨hp, live_no h1, upd_same⟩⟩
  · obtain ⟨u, hu, r⟩ := h.cell n a c e1 e2
    exact ⟨u, by rw [upd_ne (ne_of_none hu np)]; exact hu, r.mono (sm hid)⟩
  · have : a ≠ p := fun e => h2 (e ▸ ha)
    rw [upd_ne this]
    exact h.hidT a ha
/-- a new live cell -/
theorem Hold.newCell (h : Hold K T γ hid S H) {p : Addr} (np : H p = none) {c : CC} {o : HO} (r : CRep K T (out γ S hid H) c o) :
    Hold K T (γ ++ [p]) hid (S ++ [⟨true, c⟩]) (upd H p o) ∧ Ext γ S H (γ ++ [p]) (S ++ [⟨true, c⟩]) (upd H p o) := by
  obtain ⟨h1, h2⟩ := h.fresh np
  have lv : ∀ b, b ≠ p → liveAt (γ ++ [p]) (S ++ [⟨true, c⟩]) b = liveAt γ S b := fun b hb => by
    unfold liveAt
    rw [List.zip_append h.len, List.any_append]
    simp [Ne.symm hb]
  have sm : ∀ hd, Same (out γ S hd H) (out (γ ++ [p]) (S ++ [⟨true, c⟩]) hd (upd H p o)) := fun hd b u hb => by
    obtain ⟨a1, a2, a3⟩ := out_some.mp hb
    have ne := ne_of_none a3 np
    exact out_some.mpr ⟨a1, by rw [lv b ne]; exact a2, by rw [upd_ne ne]; exact a3⟩
  refine ⟨⟨by simp [h.len], ?_, fun n a c' e1 e2 => ?_, fun a ha => ?_, fun a ha => ?_⟩, ⟨fun n a q => ?_, sm []⟩⟩
  · rw [List.nodup_append]
    refine ⟨h.nd, by simp, fun a ha b hb e => h1 ?_⟩
    have z : b = p := by simpa using hb
    rw [← z, ← e]
    exact ha
  · by_cases hn : n < γ.length
    · rw [List.getElem?_append_left hn] at e1
      rw [List.getElem?_append_left (by rw [← h.len]; exact hn)] at e2
      obtain ⟨u, hu, r'⟩ := h.cell n a c' e1 e2
      exact ⟨u, by rw [upd_ne (ne_of_none hu np)]; exact hu, r'.mono (sm hid)⟩
    · have hn' : γ.length ≤ n := by omega
      rw [List.getElem?_append_right hn'] at e1
      rw [List.getElem?_append_right (by rw [← h.len]; exact hn')] at e2
      rw [h.len] at e1
      cases q : n - S.length with
      | zero =>
        rw [q] at e1 e2
        cases e1
        cases e2
        exact ⟨o, upd_same, r.mono (sm hid)⟩
      | succ m =>
        rw [q] at e1
        simp at e1
  · have : a ≠ p := fun e => h2 (e ▸ ha)
    rw [upd_ne this]
    exact h.hidT a ha
  · intro hm
    rcases List.mem_append.mp hm with hm | hm
    · exact h.hidG a ha hm
    · have : a = p := by simpa using hm
      exact h2 (this ▸ ha)
  · exact (List.getElem?_append_left (List.getElem?_eq_some_iff.mp q).1).trans q
/-- a live cell is changed -/
theorem Hold.write (h : Hold K T γ hid S H) {n : Nat} {a : Addr} {c c' : CC} {o : HO} (e : γ[n]? = some a) (q : S[n]? = some ⟨true, c⟩) (r : CRep K T (out γ S hid H) c' o) :
    Hold K T γ hid (S.set n ⟨true, c'⟩) (upd H a o) ∧ Ext γ S H γ (S.set n ⟨true, c'⟩) (upd H a o) := by
  have hn : n < S.length := (List.getElem?_eq_some_iff.mp q).1
  have lv : ∀ b, liveAt γ (S.set n ⟨true, c'⟩) b = liveAt γ S b := fun b => by
    apply Bool.eq_iff_iff.mpr
    rw [liveAt_iff, liveAt_iff]
    constructor
    · rintro ⟨m, d, h1, h2, h3⟩
      by_cases hm : n = m
      · subst hm
        exact ⟨n, _, h1, q, rfl⟩
      · rw [List.getElem?_set_ne hm] at h2
        exact ⟨m, d, h1, h2, h3⟩
    · rintro ⟨m, d, h1, h2, h3⟩
      by_cases hm : n = m
      · subst hm
        exact ⟨n, _, h1, List.getElem?_set_self hn, rfl⟩
      · exact ⟨m, d, h1, by rw [List.getElem?_set_ne hm]; exact h2, h3⟩
  have la : liveAt γ S a = true := liveAt_iff.mpr ⟨n, _, e, q, rfl⟩
  have sm : ∀ hd, Same (out γ S hd H) (out γ (S.set n ⟨true, c'⟩) hd (upd H a o)) := fun hd b u hb => by
    obtain ⟨a1, a2, a3⟩ := out_some.mp hb
    have ne : b ≠ a := fun z => by rw [z, la] at a2; cases a2
    exact out_some.mpr ⟨a1, by rw [lv b]; exact a2, by rw [upd_ne ne]; exact a3⟩
  refine ⟨⟨by simp [h.len], h.nd, fun m b d e1 e2 => ?_, fun b hb => ?_, h.hidG⟩, ⟨fun _ _ z => z, sm []⟩⟩
  · by_cases hm : n = m
    · subst hm
      rw [List.getElem?_set_self hn] at e2
      cases e2
      rw [e] at e1
      cases e1
      exact ⟨o, upd_same, r.mono (sm hid)⟩
    · rw [List.getElem?_set_ne hm] at e2
      obtain ⟨u, hu, r'⟩ := h.cell m b d e1 e2
      have ne : b ≠ a := fun z => hm (nd_ix h.nd e (z ▸ e1))
      exact ⟨u, by rw [upd_ne ne]; exact hu, r'.mono (sm hid)⟩
  · by_cases hb' : b = a
    · rw [hb', upd_same]
      simp
    · rw [upd_ne hb']
      exact h.hidT b hb
/-- a cell is frozen -/
theorem Hold.freeze (h : Hold K T γ hid S H) {n : Nat} {b : Bool} {c : CC} (q : S[n]? = some ⟨b, c⟩) : Hold K T γ hid (S.set n ⟨false, c⟩) H ∧ Ext γ S H γ (S.set n ⟨false, c⟩) H := by
  have hn : n < S.length := (List.getElem?_eq_some_iff.mp q).1
  have lv : ∀ b, liveAt γ S b = false → liveAt γ (S.set n ⟨false, c⟩) b = false := fun b hb => by
    cases z : liveAt γ (S.set n ⟨false, c⟩) b with
    | false => rfl
    | true =>
      obtain ⟨m, d, h1, h2, h3⟩ := liveAt_iff.mp z
      by_cases hm : n = m
      · subst hm
        rw [List.getElem?_set_self hn] at h2
        cases h2
        cases h3
      · rw [List.getElem?_set_ne hm] at h2
        rw [liveAt_iff.mpr ⟨m, d, h1, h2, h3⟩] at hb
        cases hb
  have sm : ∀ hd, Same (out γ S hd H) (out γ (S.set n ⟨false, c⟩) hd H) := fun hd b u hb => by
    obtain ⟨a1, a2, a3⟩ := out_some.mp hb
    exact out_some.mpr ⟨a1, lv b a2, a3⟩
  refine ⟨⟨by simp [h.len], h.nd, fun m x d e1 e2 => ?_, h.hidT, h.hidG⟩, ⟨fun _ _ z => z, sm []⟩⟩
  by_cases hm : n = m
  · subst hm
    rw [List.getElem?_set_self hn] at e2
    cases e2
    obtain ⟨u, hu, r'⟩ := h.cell n x _ e1 q
    exact ⟨u, hu, r'.mono (sm hid)⟩
  · rw [List.getElem?_set_ne hm] at e2
    obtain ⟨u, hu, r'⟩ := h.cell m x d e1 e2
    exact ⟨u, hu, r'.mono (sm hid)⟩
theorem getElem?_take_some {α : Type} {l : List α} {k n : Nat} {x : α} (h : (l.take k)[n]? = some x) : l[n]? = some x ∧ n < k := by
  rw [List.getElem?_take] at h
  split at h
  · exact ⟨h, by assumption⟩
  · cases h
/-- the last cells are forgotten: they are no cells any more -/
theorem Hold.cut (h : Hold K T γ hid S H) (k : Nat) : Hold K T (γ.take k) hid (S.take k) H ∧ ∀ hd, Same (out γ S hd H) (out (γ.take k) (S.take k) hd H) := by
  have lv : ∀ b, liveAt γ S b = false → liveAt (γ.take k) (S.take k) b = false := fun b hb => by
    cases z : liveAt (γ.take k) (S.take k) b with
    | false => rfl
    | true =>
      obtain ⟨m, d, h1, h2, h3⟩ := liveAt_iff.mp z
      rw [liveAt_iff.mpr ⟨m, d, (getElem?_take_some h1).1, (getElem?_take_some h2).1, h3⟩] at hb
      cases hb
  have sm : ∀ hd, Same (out γ S hd H) (out (γ.take k) (S.take k) hd H) := fun hd b u hb => by
    obtain ⟨a1, a2, a3⟩ := out_some.mp hb
    exact out_some.mpr ⟨a1, lv b a2, a3⟩
  refine ⟨⟨by simp [h.len], h.nd.sublist (List.take_sublist _ _), fun m x d e1 e2 => ?_, h.hidT, fun a ha hm => h.hidG a ha (List.mem_of_mem_take hm)⟩, sm⟩
  obtain ⟨u, hu, r'⟩ := h.cell m x d (getElem?_take_some e1).1 (getElem?_take_some e2).1
  exact ⟨u, hu, r'.mono (sm hid)⟩
/-- a hidden thing -/
theorem Hold.hide (h : Hold K T γ hid S H) {p : Addr} (np : H p = none) (o : HO) : Hold K T γ (p :: hid) S (upd H p o) ∧ Same (out γ S hid H) (out γ S (p :: hid) (upd H p o)) := by
  obtain ⟨h1, h2⟩ := h.fresh np
  have sm : Same (out γ S hid H) (out γ S (p :: hid) (upd H p o)) := fun b u hb => by
    obtain ⟨a1, a2, a3⟩ := out_some.mp hb
    have ne := ne_of_none a3 np
    exact out_some.mpr ⟨by simp [ne, a1], a2, by rw [upd_ne ne]; exact a3⟩
  refine ⟨⟨h.len, h.nd, fun n a c e1 e2 => ?_, fun a ha => ?_, fun a ha => ?_⟩, sm⟩
  · obtain ⟨u, hu, r⟩ := h.cell n a c e1 e2
    exact ⟨u, by rw [upd_ne (ne_of_none hu np)]; exact hu, r.mono sm⟩
  · by_cases e : a = p
    · rw [e, upd_same]
      simp
    · rw [upd_ne e]
      rcases List.mem_cons.mp ha with z | z
      · exact absurd z e
      · exact h.hidT a z
  · rcases List.mem_cons.mp ha with z | z
    · rw [z]; exact h1
    · exact h.hidG a z
/-- a hidden thing is changed -/
theorem Hold.rewrite (h : Hold K T γ hid S H) {p : Addr} (hp : p ∈ hid) (o : HO) : Hold K T γ hid S (upd H p o) ∧ ∀ b, out γ S hid (upd H p o) b = out γ S hid H b := by
  have sm : ∀ b, out γ S hid (upd H p o) b = out γ S hid H b := fun b => by
    unfold out
    by_cases e : b = p
    · rw [if_pos (by simp [e, hp]), if_pos (by simp [e, hp])]
    · rw [upd_ne e]
  refine ⟨⟨h.len, h.nd, fun n a c e1 e2 => ?_, fun a ha => ?_, h.hidG⟩, sm⟩
  · obtain ⟨u, hu, r⟩ := h.cell n a c e1 e2
    have ne : a ≠ p := fun z => h.hidG p hp (z ▸ List.mem_of_getElem? e1)
    exact ⟨u, by rw [upd_ne ne]; exact hu, r.mono fun b u hb => by rw [sm b]; exact hb⟩
  · by_cases e : a = p
    · rw [e, upd_same]
      simp
    · rw [upd_ne e]
      exact h.hidT a ha
end
end DL
end
section
set_option maxHeartbeats 2000000
/-! DLb: the judgements over data: expressions, tests, arguments, fresh lists, statements. -/
namespace DL
open PySem PySem.Spec L2
open PyProof.Rows hiding St

abbrev En := List (Option D)
structure EnvR (K : PySem.W.Frag) (T : Tab) (γ : List Addr) (F : Hp) (ρ : En) (σ : St) : Prop where
  len : ρ.length = σ.length
  get : ∀ (i : Nat) (d : D), ρ[i]? = some (some d) → ∃ v, σ[i]? = some (some v) ∧ Rp K T γ F d v
theorem EnvR.mono {K : PySem.W.Frag} {T : Tab} {γ γ' : List Addr} {F F' : Hp} {ρ : En} {σ : St} (hg : ∀ (n : Nat) (a : Addr), γ[n]? = some a → γ'[n]? = some a) (hs : Same F F') (e : EnvR K T γ F ρ σ) : EnvR K T γ' F' ρ σ :=
  ⟨e.len, fun i d h => let ⟨v, h1, h2⟩ := e.get i d h; ⟨v, h1, Rp.mono hg hs d v h2⟩⟩
theorem EnvR.set {K : PySem.W.Frag} {T : Tab} {γ : List Addr} {F : Hp} {ρ : En} {σ : St} (e : EnvR K T γ F ρ σ) (i : Nat) {d : D} {v : V} (r : Rp K T γ F d v) : EnvR K T γ F (ρ.set i (some d)) (σ.set i (some v)) := by
  refine ⟨by simp [e.len], fun j d' h => ?_⟩
  by_cases hj : i = j
  · subst hj
    have hi : i < ρ.length := by
      have := (List.getElem?_eq_some_iff.mp h).1
      simpa using this
    rw [List.getElem?_set_self hi] at h
    cases h
    exact ⟨v, List.getElem?_set_self (by rw [← e.len]; exact hi), r⟩
  · rw [List.getElem?_set_ne hj] at h
    obtain ⟨v', h1, h2⟩ := e.get j d' h
    exact ⟨v', by rw [List.getElem?_set_ne hj]; exact h1, h2⟩
/-- the wish about exceptions -/
abbrev XX := Xc → En → List Addr → List Addr → Cells → Hp → St → Prop
def XX0 : XX := fun _ _ _ _ _ _ _ => False

section
variable (K : PySem.W.Frag) (T : Tab) (EE : XX)
/-- what is wanted of a result -/
def resG {α β : Type} (rep : List Addr → Hp → α → β → Prop) (γ hid : List Addr) (S : Cells) (H : Hp) (ρ : En) (σ : St) (r : R α) (Q : β → Hp → Prop) : Prop := match r with
  | .ok a S' => ∀ (γ' : List Addr) (H' : Hp) (b : β), Hold K T γ' hid S' H' → Ext γ S H γ' S' H' → rep γ' (out γ' S' hid H') a b → Q b H'
  | .err x S' => ∀ (γ' : List Addr) (H' : Hp), Hold K T γ' hid S' H' → Ext γ S H γ' S' H' → EE x ρ γ' hid S' H' σ
  | .stuck => False
def dG {α β : Type} (rep : List Addr → Hp → α → β → Prop) (f : En → M α) : St → Hp → (β → Hp → Prop) → Prop := fun σ H Q =>
  ∃ γ hid S ρ, Hold K T γ hid S H ∧ EnvR K T γ (out γ S hid H) ρ σ ∧ resG K T EE rep γ hid S H ρ σ (f ρ S) Q
abbrev repE : List Addr → Hp → D → V → Prop := Rp K T
abbrev repA : List Addr → Hp → List D → List V → Prop := RpL K T
/-- a list's items -/
def repL : List Addr → Hp → List D → List V → Prop := fun γ F l vs => l.length ≤ sizeLine ∧ RpL K T γ F l vs
def repB : List Addr → Hp → Bool → Bool → Prop := fun _ _ a b => a = b
def dE (f : En → M D) : TE := dG K T EE (repE K T) f
def dT (f : En → M Bool) : TT := dG K T EE repB f
def dA (f : En → M (List D)) : TA := dG K T EE (repA K T) f
/-- a new list with these items -/
def dL (f : En → M (List D)) : TE := fun σ H Q => dG K T EE (repL K T) f σ H fun vs H' => ∀ p, H' p = none → Q (.ref p) (upd H' p (.lst vs))
end
section
variable {K : PySem.W.Frag} {T : Tab} {EE : XX}
theorem resG.base {α β : Type} {rep : List Addr → Hp → α → β → Prop} {γ γ1 hid : List Addr} {S S1 : Cells} {H H1 : Hp} {ρ : En} {σ : St} {r : R α} {Q : β → Hp → Prop} (h : resG K T EE rep γ hid S H ρ σ r Q) (e : Ext γ S H γ1 S1 H1) :
    resG K T EE rep γ1 hid S1 H1 ρ σ r Q := by
  cases r with
  | ok a S' => exact fun γ' H' b a1 a2 a3 => h γ' H' b a1 (e.trans a2) a3
  | err x S' => exact fun γ' H' a1 a2 => h γ' H' a1 (e.trans a2)
  | stuck => exact h
theorem resG.imp {α β : Type} {rep : List Addr → Hp → α → β → Prop} {γ hid : List Addr} {S : Cells} {H : Hp} {ρ : En} {σ : St} {r : R α} {Q Q' : β → Hp → Prop} (h : resG K T EE rep γ hid S H ρ σ r Q) (i : ∀ b H', Q b H' → Q' b H') :
    resG K T EE rep γ hid S H ρ σ r Q' := by
  cases r with
  | ok a S' => exact fun γ' H' b a1 a2 a3 => i _ _ (h γ' H' b a1 a2 a3)
  | err x S' => exact h
  | stuck => exact h
/-- one thing, then another -/
theorem bindR {α β α' β' : Type} {rep : List Addr → Hp → α → β → Prop} {rep' : List Addr → Hp → α' → β' → Prop} {γ hid : List Addr} {S : Cells} {H : Hp} {ρ : En} {σ : St} {Q : β' → Hp → Prop} {f : En → M α} {g : α → M α'}
    (hold : Hold K T γ hid S H) (env : EnvR K T γ (out γ S hid H) ρ σ) (h : resG K T EE rep' γ hid S H ρ σ ((M.bind (f ρ) g) S) Q) :
    dG K T EE rep f σ H fun b H1 => ∃ a γ1 S1, Hold K T γ1 hid S1 H1 ∧ Ext γ S H γ1 S1 H1 ∧ EnvR K T γ1 (out γ1 S1 hid H1) ρ σ ∧ rep γ1 (out γ1 S1 hid H1) a b ∧ resG K T EE rep' γ1 hid S1 H1 ρ σ (g a S1) Q := by
  refine ⟨γ, hid, S, ρ, hold, env, ?_⟩
  have h' : resG K T EE rep' γ hid S H ρ σ (match f ρ S with
    | .ok a S' => g a S'
    | .err x S' => .err x S'
    | .stuck => .stuck) Q := h
  cases q : f ρ S with
  | ok a S1 =>
    rw [q] at h'
    exact fun γ1 H1 b a1 a2 a3 => ⟨a, γ1, S1, a1, a2, env.mono a2.pre (a2.sameH hid), a3, h'.base a2⟩
  | err x S1 =>
    rw [q] at h'
    exact h'
  | stuck =>
    rw [q] at h'
    exact h'
theorem bindD {α β α' β' : Type} {rep : List Addr → Hp → α → β → Prop} {rep' : List Addr → Hp → α' → β' → Prop} {H : Hp} {σ : St} {Q : β' → Hp → Prop} {f : En → M α} {g : En → α → M α'}
    (h : dG K T EE rep' (fun ρ => M.bind (f ρ) (g ρ)) σ H Q) :
    dG K T EE rep f σ H fun b H1 => ∃ a γ1 hid S1 ρ, Hold K T γ1 hid S1 H1 ∧ EnvR K T γ1 (out γ1 S1 hid H1) ρ σ ∧ rep γ1 (out γ1 S1 hid H1) a b ∧ resG K T EE rep' γ1 hid S1 H1 ρ σ (g ρ a S1) Q := by
  obtain ⟨γ, hid, S, ρ, hold, env, h⟩ := h
  obtain ⟨γ', hid', S', ρ', h1, h2, h3⟩ := bindR (rep := rep) hold env h
  exact ⟨γ', hid', S', ρ', h1, h2, h3.imp fun b H1 ⟨a, γ1, S1, q1, q2, q3, q4, q5⟩ => ⟨a, γ1, hid, S1, ρ, q1, q3, q4, q5⟩⟩
end

/-- e's value is f -/
structure EvE (X : Cx) (T : Tab) (EE : XX) (e : Expr) (f : En → M D) : Prop where
  pe : PE X e (dE X.K T EE f)
structure EvL (X : Cx) (T : Tab) (EE : XX) (e : Expr) (f : En → M (List D)) : Prop where
  pe : PE X e (dL X.K T EE f)
structure EvT (X : Cx) (T : Tab) (EE : XX) (e : Expr) (f : En → M Bool) : Prop where
  pt : PT X e (dT X.K T EE f)
structure EvW (X : Cx) (T : Tab) (EE : XX) (e : Expr) (f : En → M Bool) : Prop where
  pw : PW X e (dT X.K T EE f)
structure EvA (X : Cx) (T : Tab) (EE : XX) (es : List Expr) (f : En → M (List D)) : Prop where
  pa : PA X es (dA X.K T EE f)
theorem _root_.L2.PE.dimp {X : Cx} {e : Expr} {t t' : TE} (h : PE X e t) (i : ∀ σ H Q, t' σ H Q → t σ H Q) : PE X e t' := ⟨fun pins s σ H Q I q => h.run pins s σ H Q I (i _ _ _ q)⟩
theorem _root_.L2.PT.dimp {X : Cx} {e : Expr} {t t' : TT} (h : PT X e t) (i : ∀ σ H Q, t' σ H Q → t σ H Q) : PT X e t' := ⟨fun pins s σ H Q I q => h.run pins s σ H Q I (i _ _ _ q)⟩
theorem _root_.L2.PW.dimp {X : Cx} {e : Expr} {t t' : TT} (h : PW X e t) (i : ∀ σ H Q, t' σ H Q → t σ H Q) : PW X e t' := ⟨fun w pins s σ H Q I q => h.run w pins s σ H Q I (i _ _ _ q)⟩
theorem _root_.L2.PA.dimp {X : Cx} {e : List Expr} {t t' : TA} (h : PA X e t) (i : ∀ σ H Q, t' σ H Q → t σ H Q) : PA X e t' := ⟨fun p pins s σ H Q I q => h.run p pins s σ H Q I (i _ _ _ q)⟩
theorem _root_.L2.OpR.dimp {X : Cx} {f : Value → Value → Sem Value} {r r' : R2} (h : OpR X f r) (i : ∀ x y H Q, r' x y H Q → r x y H Q) : OpR X f r' := fun pins s σ H x y v u Q I rx ry q => h pins s σ H x y v u Q I rx ry (i _ _ _ _ q)
theorem _root_.L2.CallR.dimp {X : Cx} {f : Value} {r r' : List V → Hp → VK → Prop} (h : CallR X f r) (i : ∀ x H Q, r' x H Q → r x H Q) : CallR X f r' := fun pins s σ H xs us Q I rx q => h pins s σ H xs us Q I rx (i _ _ _ q)

/-! ### steps that raise nothing -/
/-- without a change of the store -/
def M.opt {α : Type} (f : Cells → Option α) : M α := fun S => match f S with
  | some a => .ok a S
  | none => .stuck
/-- with one -/
def M.chg {α : Type} (f : Cells → Option (α × Cells)) : M α := fun S => match f S with
  | some (a, S') => .ok a S'
  | none => .stuck
/-- a value is wanted -/
def okV (K : PySem.W.Frag) (T : Tab) (γ hid : List Addr) (S : Cells) (H : Hp) (d : D) (S' : Cells) (Q : VK) : Prop :=
  ∀ (γ' : List Addr) (H' : Hp) (v : V), Hold K T γ' hid S' H' → Ext γ S H γ' S' H' → Rp K T γ' (out γ' S' hid H') d v → Q v H'
def okL (K : PySem.W.Frag) (T : Tab) (γ hid : List Addr) (S : Cells) (H : Hp) (l : List D) (S' : Cells) (Q : VK) : Prop :=
  ∀ (γ' : List Addr) (H' : Hp) (vs : List V), Hold K T γ' hid S' H' → Ext γ S H γ' S' H' → l.length ≤ sizeLine → RpL K T γ' (out γ' S' hid H') l vs → ∀ p, H' p = none → Q (.ref p) (upd H' p (.lst vs))
section
variable {X : Cx} {T : Tab} {EE : XX} {a b e : Expr} {es : List Expr} {fa fb f : En → M D} {fs : En → M (List D)} {pos : Pos}

theorem bind_of_ok {α β : Type} {f : M α} {g : α → M β} {S S' : Cells} {a : α} (e : f S = .ok a S') : (M.bind (f) g) S = g a S' := by
  unfold M.bind
  rw [e]
theorem bind_of_stuck {α β : Type} {f : M α} {g : α → M β} {S : Cells} (e : f S = .stuck) : (M.bind (f) g) S = .stuck := by
  unfold M.bind
  rw [e]
theorem bind_of_err {α β : Type} {f : M α} {g : α → M β} {S S' : Cells} {x : Xc} (e : f S = .err x S') : (M.bind (f) g) S = .err x S' := by
  unfold M.bind
  rw [e]
theorem opt_some {α : Type} {f : Cells → Option α} {S : Cells} {a : α} (e : f S = some a) : M.opt f S = .ok a S := by
  unfold M.opt
  rw [e]
theorem opt_none {α : Type} {f : Cells → Option α} {S : Cells} (e : f S = none) : M.opt f S = .stuck := by
  unfold M.opt
  rw [e]
/-! ### names and constants -/
def rd (ρ : En) (i : Nat) : M D := fun S => match ρ[i]? with
  | some (some d) => .ok d S
  | _ => .stuck
theorem ev_var (i : Nat) {x : Str} (hN : X.N[i]? = some x) (hv : Vis X.env.scope x) (hd : (x == ("__debug__" : Str)) = false := by decide) (hcd : (x == ("__classdict__" : Str)) = false := by decide) : EvE X T EE (.Name x pos) (fun ρ => rd ρ i) := by
  refine ⟨(pe_var hN hv hd hcd).dimp fun σ H Q h => ?_⟩
  obtain ⟨γ, hid, S, ρ, hold, env, h⟩ := h
  have h : resG X.K T EE (repE X.K T) γ hid S H ρ σ (rd ρ i S) Q := h
  unfold rd at h
  split at h
  · rename_i d hd
    obtain ⟨v, h1, h2⟩ := env.get i d hd
    exact ⟨v, h1, h γ H v hold (Ext.refl _ _ _) h2⟩
  · exact h.elim
def kon (d : D) : M D := fun S => .ok d S
theorem konR {K : PySem.W.Frag} {d : D} {v : V} {σ : St} {H : Hp} {Q : VK} (h : dE K T EE (fun _ => kon d) σ H Q) (r : ∀ γ F, Rp K T γ F d v) : Q v H := by
  obtain ⟨γ, hid, S, ρ, hold, env, h⟩ := h
  exact h γ H v hold (Ext.refl _ _ _) (r _ _)
theorem ev_int {i : Int} {j : Nat} : EvE X T EE (.Constant (.int i) j pos) (fun _ => kon (.int i)) := ⟨pe_int.dimp fun σ H Q h => konR h fun _ _ => .int _⟩
theorem ev_bl {i : Bool} {j : Nat} : EvE X T EE (.Constant (.bool i) j pos) (fun _ => kon (.bl i)) := ⟨pe_bl.dimp fun σ H Q h => konR h fun _ _ => .bl _⟩
theorem ev_non {j : Nat} : EvE X T EE (.Constant .none j pos) (fun _ => kon .non) := ⟨pe_non.dimp fun σ H Q h => konR h fun _ _ => .non⟩
theorem ev_str {i : Str} {j : Nat} (z : i.length ≤ sizeLine) : EvE X T EE (.Constant (.str i) j pos) (fun _ => kon (.str i)) := ⟨pe_str.dimp fun σ H Q h => konR h fun _ _ => .str _ z⟩
/-- a module's int -/
theorem ev_gint {x : Str} {i : Int} {u : Value} (hg : Gl X x) (hm : X.mg x = some u) (r : RelV (.int i) u) (hd : (x == ("__debug__" : Str)) = false := by decide) : EvE X T EE (.Name x pos) (fun _ => kon (.int i)) := ⟨(pe_glob hg hm r hd).dimp fun σ H Q h => konR h fun _ _ => .int _⟩

/-! ### operators -/
/-- an operator by its data function -/
def rO (K : PySem.W.Frag) (T : Tab) (op : D → D → Cells → Option D) : R2 := fun x y H Q => ∃ γ hid S d1 d2 d, Hold K T γ hid S H ∧ Rp K T γ (out γ S hid H) d1 x ∧ Rp K T γ (out γ S hid H) d2 y ∧ op d1 d2 S = some d ∧ okV K T γ hid S H d S Q
def rOL (K : PySem.W.Frag) (T : Tab) (op : D → D → Cells → Option (List D)) : R2 := fun x y H Q => ∃ γ hid S d1 d2 l, Hold K T γ hid S H ∧ Rp K T γ (out γ S hid H) d1 x ∧ Rp K T γ (out γ S hid H) d2 y ∧ op d1 d2 S = some l ∧ okL K T γ hid S H l S Q
theorem opt_ok {K : PySem.W.Frag} {α β : Type} {rep : List Addr → Hp → α → β → Prop} {γ hid : List Addr} {S : Cells} {H : Hp} {ρ : En} {σ : St} {Q : β → Hp → Prop} {f : Cells → Option α} (h : resG K T EE rep γ hid S H ρ σ (M.opt f S) Q) : ∃ a, f S = some a ∧ resG K T EE rep γ hid S H ρ σ (.ok a S) Q := by
  unfold M.opt at h
  split at h
  · rename_i a e
    exact ⟨a, e, h⟩
  · exact h.elim
theorem two {K : PySem.W.Frag} {op : D → D → Cells → Option D} {σ : St} {H : Hp} {Q : VK} (h : dE K T EE (fun ρ => M.bind (fa ρ) fun x => M.bind (fb ρ) fun y => M.opt (op x y)) σ H Q) : tOp (rO K T op) (dE K T EE fa) (dE K T EE fb) σ H Q := by
  refine (show dG K T EE (repE K T) fa σ H _ from ?_)
  obtain ⟨γ, hid, S, ρ, hold, env, h⟩ := h
  obtain ⟨_, _, _, _, h1, h2, h3⟩ := bindR (rep := repE K T) hold env h
  refine ⟨_, _, _, _, h1, h2, h3.imp fun x H1 ⟨d1, γ1, S1, q1, q2, q3, q4, q5⟩ => ?_⟩
  obtain ⟨_, _, _, _, h1, h2, h3⟩ := bindR (rep := repE K T) q1 q3 q5
  refine ⟨_, _, _, _, h1, h2, h3.imp fun y H2 ⟨d2, γ2, S2, w1, w2, w3, w4, w5⟩ => ?_⟩
  obtain ⟨d, e, w5⟩ := opt_ok w5
  exact ⟨γ2, hid, S2, d1, d2, d, w1, w2.rp q4, w4, e, w5⟩
theorem twoL {K : PySem.W.Frag} {op : D → D → Cells → Option (List D)} {σ : St} {H : Hp} {Q : VK} (h : dL K T EE (fun ρ => M.bind (fa ρ) fun x => M.bind (fb ρ) fun y => M.opt (op x y)) σ H Q) : tOp (rOL K T op) (dE K T EE fa) (dE K T EE fb) σ H Q := by
  refine (show dG K T EE (repE K T) fa σ H _ from ?_)
  obtain ⟨γ, hid, S, ρ, hold, env, h⟩ := h
  obtain ⟨_, _, _, _, h1, h2, h3⟩ := bindR (rep := repE K T) hold env h
  refine ⟨_, _, _, _, h1, h2, h3.imp fun x H1 ⟨d1, γ1, S1, q1, q2, q3, q4, q5⟩ => ?_⟩
  obtain ⟨_, _, _, _, h1, h2, h3⟩ := bindR (rep := repE K T) q1 q3 q5
  refine ⟨_, _, _, _, h1, h2, h3.imp fun y H2 ⟨d2, γ2, S2, w1, w2, w3, w4, w5⟩ => ?_⟩
  obtain ⟨d, e, w5⟩ := opt_ok w5
  exact ⟨γ2, hid, S2, d1, d2, d, w1, w2.rp q4, w4, e, fun γ' H' vs c1 c2 z c3 => w5 γ' H' vs c1 c2 ⟨z, c3⟩⟩
theorem ev_bin {o : Operator} {op : D → D → Cells → Option D} (ho : OpR X (binaryOp o) (rO X.K T op)) (ha : EvE X T EE a fa) (hb : EvE X T EE b fb) : EvE X T EE (.BinOp a o b pos) (fun ρ => M.bind (fa ρ) fun x => M.bind (fb ρ) fun y => M.opt (op x y)) :=
  ⟨(pe_op ho ha.pe hb.pe).dimp fun σ H Q h => two h⟩
theorem evL_bin {o : Operator} {op : D → D → Cells → Option (List D)} (ho : OpR X (binaryOp o) (rOL X.K T op)) (ha : EvE X T EE a fa) (hb : EvE X T EE b fb) : EvL X T EE (.BinOp a o b pos) (fun ρ => M.bind (fa ρ) fun x => M.bind (fb ρ) fun y => M.opt (op x y)) :=
  ⟨(pe_op ho ha.pe hb.pe).dimp fun σ H Q h => twoL h⟩
theorem ev_cmp {o : CmpOp} {op : D → D → Cells → Option D} (ho : OpR X (compareOp o) (rO X.K T op)) (hm : behindInMarks o b = false) (ha : EvE X T EE a fa) (hb : EvE X T EE b fb) : EvE X T EE (.Compare a [o] [b] pos) (fun ρ => M.bind (fa ρ) fun x => M.bind (fb ρ) fun y => M.opt (op x y)) :=
  ⟨(pe_cmpR ho ha.pe hb.pe hm).dimp fun σ H Q h => two h⟩
def rU (K : PySem.W.Frag) (T : Tab) (op : D → Cells → Option D) : V → Hp → VK → Prop := fun x H Q => ∃ γ hid S d1 d, Hold K T γ hid S H ∧ Rp K T γ (out γ S hid H) d1 x ∧ op d1 S = some d ∧ okV K T γ hid S H d S Q
theorem one {K : PySem.W.Frag} {op : D → Cells → Option D} {σ : St} {H : Hp} {Q : VK} (h : dE K T EE (fun ρ => M.bind (fa ρ) fun x => M.opt (op x)) σ H Q) : tUn (rU K T op) (dE K T EE fa) σ H Q := by
  refine (show dG K T EE (repE K T) fa σ H _ from ?_)
  obtain ⟨_, _, _, _, h1, h2, h3⟩ := bindD (rep := repE K T) h
  refine ⟨_, _, _, _, h1, h2, h3.imp fun x H1 ⟨d1, γ1, hid, S1, ρ, q1, q3, q4, q5⟩ => ?_⟩
  obtain ⟨d, e, w5⟩ := opt_ok q5
  exact ⟨γ1, hid, S1, d1, d, q1, q4, e, w5⟩
theorem ev_un {o : UnaryOp} {op : D → Cells → Option D} (ho : UnR X (unaryOp o) (rU X.K T op)) (ha : EvE X T EE a fa) : EvE X T EE (.UnaryOp o a pos) (fun ρ => M.bind (fa ρ) fun x => M.opt (op x)) :=
  ⟨(pe_un ho ha.pe).dimp fun σ H Q h => one h⟩

/-! ### tests -/
/-- a value's truth -/
def truD : D → Cells → Option Bool
  | .non, _ => some false
  | .bl b, _ => some b
  | .int i, _ => some (i != 0)
  | .str y, _ => some ((y.length : Int) != 0)
  | .tup l, _ => some (!l.isEmpty)
  | .lst l, _ => some (!l.isEmpty)
  | .ref n, S => match S[n]? with
    | some ⟨_, .lst l⟩ => some (!l.isEmpty)
    | _ => none
  | .obj _ _, _ => none
theorem isEmpty_rep {K : PySem.W.Frag} {γ : List Addr} {F : Hp} {ds : List D} {vs : List V} (h : RpL K T γ F ds vs) : (!ds.isEmpty) = !vs.isEmpty := by
  cases h <;> rfl
/-- a cell that is a list -/
theorem Hold.list {K : PySem.W.Frag} {γ hid : List Addr} {S : Cells} {H : Hp} (h : Hold K T γ hid S H) {n : Nat} {a : Addr} {b : Bool} {l : List D} (e : γ[n]? = some a) (q : S[n]? = some ⟨b, .lst l⟩) : ∃ vs, H a = some (.lst vs) ∧ l.length ≤ sizeLine ∧ RpL K T [] (out γ S hid H) l vs := by
  obtain ⟨o, h1, h2⟩ := h.cell n a _ e q
  cases h2 with
  | lst z r => exact ⟨_, h1, z, r⟩
theorem truD_ok {K : PySem.W.Frag} {γ hid : List Addr} {S : Cells} {H : Hp} {d : D} {v : V} {k : Bool} (h : Hold K T γ hid S H) (r : Rp K T γ (out γ S hid H) d v) (e : truD d S = some k) : TruV K v H k := by
  cases r with
  | non => cases e; rfl
  | bl b => cases e; rfl
  | int i => cases e; rfl
  | str x z =>
    cases e
    exact ⟨z, rfl⟩
  | lst a z b =>
    cases e
    exact .inl ⟨_, (out_sub _ _ _ _).seq a, isEmpty_rep b⟩
  | tup a z b =>
    cases e
    exact .inr (.inl ⟨_, same_seqT (out_sub _ _ _ _) a, isEmpty_rep b⟩)
  | ref a =>
    rename_i n _
    have e : (match S[n]? with
      | some ⟨_, .lst l⟩ => some (!l.isEmpty)
      | _ => none) = some k := e
    split at e
    · rename_i q
      cases e
      obtain ⟨vs, h1, _, h2⟩ := h.list a q
      exact .inl ⟨_, SqL.of h1, isEmpty_rep h2⟩
    · cases e
  | obj a b c => cases e
theorem ev_truth (ha : EvE X T EE a fa) (he : ∀ whole, isTrue a X.env whole = (do let v ← whole; standAt a.pos; holding [v] (truthy v))) : EvT X T EE a (fun ρ => M.bind (fa ρ) fun x => M.opt (truD x)) := by
  refine ⟨(pt_truth ha.pe he).dimp fun σ H Q h => ?_⟩
  refine (show dG X.K T EE (repE X.K T) fa σ H _ from ?_)
  obtain ⟨_, _, _, _, h1, h2, h3⟩ := bindD (rep := repE X.K T) h
  refine ⟨_, _, _, _, h1, h2, h3.imp fun x H1 ⟨d1, γ1, hid, S1, ρ, q1, q3, q4, q5⟩ => ?_⟩
  obtain ⟨d, e, w5⟩ := opt_ok q5
  exact ⟨d, truD_ok q1 q4 e, w5 γ1 H1 d q1 (Ext.refl _ _ _) rfl⟩
def asB : D → Option Bool
  | .bl b => some b
  | _ => none
theorem asB_ok {K : PySem.W.Frag} {γ : List Addr} {F : Hp} {d : D} {v : V} {k : Bool} (r : Rp K T γ F d v) (e : asB d = some k) : d = .bl k ∧ v = .bl k := by
  cases r <;> cases e
  exact ⟨rfl, rfl⟩
/-- a comparison as a test -/
theorem ev_cmpT {o : CmpOp} {op : D → D → Cells → Option D} (ho : OpR X (compareOp o) (rO X.K T op)) (hm : behindInMarks o b = false) (ha : EvE X T EE a fa) (hb : EvE X T EE b fb) :
    EvT X T EE (.Compare a [o] [b] pos) (fun ρ => M.bind (fa ρ) fun x => M.bind (fb ρ) fun y => M.opt (fun S => (op x y S).bind asB)) := by
  refine ⟨(pt_cmpR ho ha.pe hb.pe hm).dimp fun σ H Q h => ?_⟩
  refine (show dG X.K T EE (repE X.K T) fa σ H _ from ?_)
  obtain ⟨γ, hid, S, ρ, hold, env, h⟩ := h
  obtain ⟨_, _, _, _, h1, h2, h3⟩ := bindR (rep := repE X.K T) hold env h
  refine ⟨_, _, _, _, h1, h2, h3.imp fun x H1 ⟨d1, γ1, S1, q1, q2, q3, q4, q5⟩ => ?_⟩
  obtain ⟨_, _, _, _, h1, h2, h3⟩ := bindR (rep := repE X.K T) q1 q3 q5
  refine ⟨_, _, _, _, h1, h2, h3.imp fun y H2 ⟨d2, γ2, S2, w1, w2, w3, w4, w5⟩ => ?_⟩
  obtain ⟨k, e, w5⟩ := opt_ok w5
  cases q : op d1 d2 S2 with
  | none =>
    rw [q] at e
    cases e
  | some d =>
    rw [q] at e
    have e' : asB d = some k := e
    refine ⟨γ2, hid, S2, d1, d2, d, w1, w2.rp q4, w4, q, fun γ' H' v c1 c2 c3 => ?_⟩
    cases c3 with
    | bl b =>
      cases e'
      exact ⟨_, rfl, w5 γ' H' _ c1 c2 rfl⟩
    | _ => cases e'
/-- a < b < c -/
theorem ev_chainT {c : Expr} {fc : En → M D} {o o' : CmpOp} {op op' : D → D → Cells → Option D} (ho : OpR X (compareOp o) (rO X.K T op)) (ho' : OpR X (compareOp o') (rO X.K T op')) (ha : EvE X T EE a fa) (hb : EvE X T EE b fb) (hc : EvE X T EE c fc) (hm : lastMarks [o, o'] [b, c] = false := by rfl) :
    EvE X T EE (.Compare a [o, o'] [b, c] pos) (fun ρ => M.bind (fa ρ) fun x => M.bind (fb ρ) fun y => M.bind (M.opt (fun S => (op x y S).bind asB)) fun k => if k = true then (M.bind (fc ρ) fun z => M.opt (op' y z)) else kon (.bl false)) := by
  refine ⟨(pe_chain ho ho' ha.pe hb.pe hc.pe hm).dimp fun σ H Q h => ?_⟩
  refine (show dG X.K T EE (repE X.K T) fa σ H _ from ?_)
  obtain ⟨γ, hid, S, ρ, hold, env, h⟩ := h
  obtain ⟨_, _, _, _, h1, h2, h3⟩ := bindR (rep := repE X.K T) hold env h
  refine ⟨_, _, _, _, h1, h2, h3.imp fun x H1 ⟨d1, γ1, S1, q1, q2, q3, q4, q5⟩ => ?_⟩
  obtain ⟨_, _, _, _, h1, h2, h3⟩ := bindR (rep := repE X.K T) q1 q3 q5
  refine ⟨_, _, _, _, h1, h2, h3.imp fun y H2 ⟨d2, γ2, S2, w1, w2, w3, w4, w5⟩ => ?_⟩
  cases q : op d1 d2 S2 with
  | none =>
    rw [bind_of_stuck (opt_none (by rw [q]; rfl))] at w5
    exact w5.elim
  | some d =>
    cases q2 : asB d with
    | none =>
      rw [bind_of_stuck (opt_none (by rw [q]; exact q2))] at w5
      exact w5.elim
    | some k =>
      rw [bind_of_ok (opt_some (a := k) (by rw [q]; exact q2))] at w5
      refine ⟨γ2, hid, S2, d1, d2, d, w1, w2.rp q4, w4, q, fun γ' H' v c1 c2 c3 => ?_⟩
      obtain ⟨rfl, rfl⟩ := asB_ok c3 q2
      refine ⟨k, rfl, ?_⟩
      have env3 := w3.mono c2.pre (c2.sameH hid)
      have w6 := w5.base c2
      cases hk : k with
      | true =>
        rw [if_pos hk] at w6
        rw [if_pos rfl]
        obtain ⟨_, _, _, _, h1, h2, h3⟩ := bindR (rep := repE X.K T) (f := fc) c1 env3 w6
        refine ⟨_, _, _, _, h1, h2, h3.imp fun z H3 ⟨d3, γ3, S3, u1, u2, u3, u4, u5⟩ => ?_⟩
        obtain ⟨d', e, u5⟩ := opt_ok u5
        exact ⟨γ3, hid, S3, d2, d3, d', u1, u2.rp (c2.rp w4), u4, e, u5⟩
      | false =>
        rw [if_neg (by rw [hk]; exact Bool.false_ne_true)] at w6
        rw [if_neg Bool.false_ne_true]
        exact w6 γ' H' _ c1 (Ext.refl _ _ _) (.bl _)
/-- a value that is True or False, as a test -/
theorem ev_val (ha : EvE X T EE a fa) (he : ∀ whole, isTrue a X.env whole = (do let v ← whole; standAt a.pos; holding [v] (truthy v)) := by intro _; rfl) : EvT X T EE a (fun ρ => M.bind (fa ρ) fun x => M.opt (truD x)) := ev_truth ha he

/-! ### and, or, not as tests -/
variable {ta tb : En → M Bool} {rest : List Expr}
theorem evw_and1 (ha : EvT X T EE a ta) : EvW X T EE (.BoolOp .And [a] pos) ta := ⟨pw_and1 ha.pt⟩
theorem evw_or1 (ha : EvT X T EE a ta) : EvW X T EE (.BoolOp .Or [a] pos) ta := ⟨pw_or1 ha.pt⟩
def andM (x : M Bool) (y : M Bool) : M Bool := M.bind (x) fun c => if c = true then y else fun S => .ok false S
def orM (x : M Bool) (y : M Bool) : M Bool := M.bind (x) fun c => if c = true then fun S => .ok true S else y
theorem evw_and (ha : EvT X T EE a ta) (hb : EvW X T EE (.BoolOp .And (b :: rest) pos) tb) : EvW X T EE (.BoolOp .And (a :: b :: rest) pos) (fun ρ => andM (ta ρ) (tb ρ)) := by
  refine ⟨(pw_and ha.pt hb.pw).dimp fun σ H Q h => ?_⟩
  refine (show dG X.K T EE repB ta σ H _ from ?_)
  obtain ⟨_, _, _, _, h1, h2, h3⟩ := bindD (rep := repB) h
  refine ⟨_, _, _, _, h1, h2, h3.imp fun c H1 ⟨k, γ1, hid, S1, ρ, q1, q3, q4, q5⟩ => ?_⟩
  have q4' : k = c := q4
  subst q4'
  cases k with
  | true =>
    rw [if_pos rfl] at q5
    rw [if_pos rfl]
    exact ⟨γ1, hid, S1, ρ, q1, q3, q5⟩
  | false => exact q5 γ1 H1 false q1 (Ext.refl _ _ _) rfl
theorem evw_or (ha : EvT X T EE a ta) (hb : EvW X T EE (.BoolOp .Or (b :: rest) pos) tb) : EvW X T EE (.BoolOp .Or (a :: b :: rest) pos) (fun ρ => orM (ta ρ) (tb ρ)) := by
  refine ⟨(pw_or ha.pt hb.pw).dimp fun σ H Q h => ?_⟩
  refine (show dG X.K T EE repB ta σ H _ from ?_)
  obtain ⟨_, _, _, _, h1, h2, h3⟩ := bindD (rep := repB) h
  refine ⟨_, _, _, _, h1, h2, h3.imp fun c H1 ⟨k, γ1, hid, S1, ρ, q1, q3, q4, q5⟩ => ?_⟩
  have q4' : k = c := q4
  subst q4'
  cases k with
  | false =>
    rw [if_neg Bool.false_ne_true] at q5
    rw [if_neg Bool.false_ne_true]
    exact ⟨γ1, hid, S1, ρ, q1, q3, q5⟩
  | true => exact q5 γ1 H1 true q1 (Ext.refl _ _ _) rfl
theorem evt_of (h : EvW X T EE a ta) : EvT X T EE a ta := ⟨h.pw.pt⟩
theorem evt_not (ha : EvT X T EE a ta) : EvT X T EE (.UnaryOp .Not a pos) (fun ρ => M.bind (ta ρ) fun c S => .ok (!c) S) := by
  refine ⟨(pt_not ha.pt).dimp fun σ H Q h => ?_⟩
  refine (show dG X.K T EE repB ta σ H _ from ?_)
  obtain ⟨_, _, _, _, h1, h2, h3⟩ := bindD (rep := repB) h
  refine ⟨_, _, _, _, h1, h2, h3.imp fun c H1 ⟨k, γ1, hid, S1, ρ, q1, q3, q4, q5⟩ => ?_⟩
  have q4' : k = c := q4
  subst q4'
  exact q5 γ1 H1 _ q1 (Ext.refl _ _ _) rfl
/-- .. as values -/
theorem ev_one {op : BoolOp} (h : EvE X T EE a fa) : EvE X T EE (.BoolOp op [a] pos) fa := ⟨pe_one h.pe⟩
def andE (x : M D) (y : M D) : M D := M.bind (x) fun d => M.bind (M.opt (fun _ => asB d)) fun c => if c = true then y else kon (.bl false)
def orE (x : M D) (y : M D) : M D := M.bind (x) fun d => M.bind (M.opt (fun _ => asB d)) fun c => if c = true then kon (.bl true) else y
theorem optB {K : PySem.W.Frag} {α β : Type} {rep : List Addr → Hp → α → β → Prop} {γ hid : List Addr} {S : Cells} {H : Hp} {ρ : En} {σ : St} {Q : β → Hp → Prop} {d : D} {g : Bool → M α} (h : resG K T EE rep γ hid S H ρ σ ((M.bind (M.opt (fun _ => asB d)) g) S) Q) : ∃ k, asB d = some k ∧ resG K T EE rep γ hid S H ρ σ (g k S) Q := by
  cases q : asB d with
  | none =>
    unfold M.opt M.bind at h
    simp only [q] at h
    exact h.elim
  | some k =>
    unfold M.opt M.bind at h
    simp only [q] at h
    exact ⟨k, rfl, h⟩
theorem ev_and (ha : EvE X T EE a fa) (hb : EvE X T EE (.BoolOp .And (b :: rest) pos) fb) : EvE X T EE (.BoolOp .And (a :: b :: rest) pos) (fun ρ => andE (fa ρ) (fb ρ)) := by
  refine ⟨(pe_and ha.pe hb.pe).dimp fun σ H Q h => ?_⟩
  refine (show dG X.K T EE (repE X.K T) fa σ H _ from ?_)
  obtain ⟨_, _, _, _, h1, h2, h3⟩ := bindD (rep := repE X.K T) h
  refine ⟨_, _, _, _, h1, h2, h3.imp fun c H1 ⟨d, γ1, hid, S1, ρ, q1, q3, q4, q5⟩ => ?_⟩
  obtain ⟨k, e, q6⟩ := optB q5
  clear q5
  obtain ⟨rfl, rfl⟩ := asB_ok q4 e
  refine ⟨k, rfl, ?_⟩
  cases k with
  | true =>
    rw [if_pos rfl] at q6
    rw [if_pos rfl]
    exact ⟨γ1, hid, S1, ρ, q1, q3, q6⟩
  | false => exact q6 γ1 H1 _ q1 (Ext.refl _ _ _) (.bl _)
theorem ev_or (ha : EvE X T EE a fa) (hb : EvE X T EE (.BoolOp .Or (b :: rest) pos) fb) : EvE X T EE (.BoolOp .Or (a :: b :: rest) pos) (fun ρ => orE (fa ρ) (fb ρ)) := by
  refine ⟨(pe_or ha.pe hb.pe).dimp fun σ H Q h => ?_⟩
  refine (show dG X.K T EE (repE X.K T) fa σ H _ from ?_)
  obtain ⟨_, _, _, _, h1, h2, h3⟩ := bindD (rep := repE X.K T) h
  refine ⟨_, _, _, _, h1, h2, h3.imp fun c H1 ⟨d, γ1, hid, S1, ρ, q1, q3, q4, q5⟩ => ?_⟩
  obtain ⟨k, e, q6⟩ := optB q5
  clear q5
  obtain ⟨rfl, rfl⟩ := asB_ok q4 e
  refine ⟨k, rfl, ?_⟩
  cases k with
  | false =>
    rw [if_neg Bool.false_ne_true] at q6
    rw [if_neg Bool.false_ne_true]
    exact ⟨γ1, hid, S1, ρ, q1, q3, q6⟩
  | true => exact q6 γ1 H1 _ q1 (Ext.refl _ _ _) (.bl _)
theorem ev_not (ha : EvE X T EE a fa) : EvE X T EE (.UnaryOp .Not a pos) (fun ρ => M.bind (fa ρ) fun d => M.bind (M.opt (fun _ => asB d)) fun c => kon (.bl (!c))) := by
  refine ⟨(pe_not ha.pe).dimp fun σ H Q h => ?_⟩
  refine (show dG X.K T EE (repE X.K T) fa σ H _ from ?_)
  obtain ⟨_, _, _, _, h1, h2, h3⟩ := bindD (rep := repE X.K T) h
  refine ⟨_, _, _, _, h1, h2, h3.imp fun c H1 ⟨d, γ1, hid, S1, ρ, q1, q3, q4, q5⟩ => ?_⟩
  obtain ⟨k, e, q6⟩ := optB q5
  clear q5
  obtain ⟨rfl, rfl⟩ := asB_ok q4 e
  exact ⟨k, rfl, q6 γ1 H1 _ q1 (Ext.refl _ _ _) (.bl _)⟩
theorem ev_ifExp {c : Expr} (hc : EvT X T EE c ta) (ha : EvE X T EE a fa) (hb : EvE X T EE b fb) : EvE X T EE (.IfExp c a b pos) (fun ρ => M.bind (ta ρ) fun k => if k = true then fa ρ else fb ρ) := by
  refine ⟨(pe_ifExp hc.pt ha.pe hb.pe).dimp fun σ H Q h => ?_⟩
  refine (show dG X.K T EE repB ta σ H _ from ?_)
  obtain ⟨_, _, _, _, h1, h2, h3⟩ := bindD (rep := repB) h
  refine ⟨_, _, _, _, h1, h2, h3.imp fun c H1 ⟨k, γ1, hid, S1, ρ, q1, q3, q4, q5⟩ => ?_⟩
  have q4' : k = c := q4
  subst q4'
  cases k with
  | true =>
    rw [if_pos rfl] at q5
    rw [if_pos rfl]
    exact ⟨γ1, hid, S1, ρ, q1, q3, q5⟩
  | false =>
    rw [if_neg Bool.false_ne_true] at q5
    rw [if_neg Bool.false_ne_true]
    exact ⟨γ1, hid, S1, ρ, q1, q3, q5⟩
theorem evL_ifExp {c : Expr} {la lb : En → M (List D)} (hc : EvT X T EE c ta) (ha : EvL X T EE a la) (hb : EvL X T EE b lb) : EvL X T EE (.IfExp c a b pos) (fun ρ => M.bind (ta ρ) fun k => if k = true then la ρ else lb ρ) := by
  refine ⟨(pe_ifExp hc.pt ha.pe hb.pe).dimp fun σ H Q h => ?_⟩
  refine (show dG X.K T EE repB ta σ H _ from ?_)
  obtain ⟨_, _, _, _, h1, h2, h3⟩ := bindD (rep := repB) h
  refine ⟨_, _, _, _, h1, h2, h3.imp fun c H1 ⟨k, γ1, hid, S1, ρ, q1, q3, q4, q5⟩ => ?_⟩
  have q4' : k = c := q4
  subst q4'
  cases k with
  | true =>
    rw [if_pos rfl] at q5
    rw [if_pos rfl]
    exact ⟨γ1, hid, S1, ρ, q1, q3, q5⟩
  | false =>
    rw [if_neg Bool.false_ne_true] at q5
    rw [if_neg Bool.false_ne_true]
    exact ⟨γ1, hid, S1, ρ, q1, q3, q5⟩

/-! ### arguments, tuples, lists -/
theorem ea_nil : EvA X T EE [] (fun _ S => .ok [] S) := ⟨pa_nil.dimp fun σ H Q h => by
  obtain ⟨γ, hid, S, ρ, hold, env, h⟩ := h
  exact h γ H [] hold (Ext.refl _ _ _) .nil⟩
def consM (x : M D) (y : M (List D)) : M (List D) := M.bind (x) fun d => M.bind (y) fun l S => .ok (d :: l) S
theorem ea_cons (ha : EvE X T EE e f) (hr : EvA X T EE es fs) (hs : starEach (e :: es) X.env = (false, eval e X.env) :: starEach es X.env := by rfl) : EvA X T EE (e :: es) (fun ρ => consM (f ρ) (fs ρ)) := by
  refine ⟨(pa_cons ha.pe hr.pa hs).dimp fun σ H Q h => ?_⟩
  refine (show dG X.K T EE (repE X.K T) f σ H _ from ?_)
  obtain ⟨γ, hid, S, ρ, hold, env, h⟩ := h
  obtain ⟨_, _, _, _, h1, h2, h3⟩ := bindR (rep := repE X.K T) hold env h
  refine ⟨_, _, _, _, h1, h2, h3.imp fun x H1 ⟨d1, γ1, S1, q1, q2, q3, q4, q5⟩ => ?_⟩
  obtain ⟨_, _, _, _, h1, h2, h3⟩ := bindR (rep := repA X.K T) q1 q3 q5
  refine ⟨_, _, _, _, h1, h2, h3.imp fun y H2 ⟨d2, γ2, S2, w1, w2, w3, w4, w5⟩ => ?_⟩
  exact w5 γ2 H2 _ w1 (Ext.refl _ _ _) (.cons (w2.rp q4) w4)
/-- a tuple, few items -/
theorem ev_tup {x1 : Nat} (h : EvA X T EE es fs) : EvE X T EE (.Tuple es x1 pos) (fun ρ => M.bind (fs ρ) fun l => M.opt fun _ => if l.length ≤ sizeLine then some (.tup l) else none) := by
  refine ⟨(pe_tup h.pa).dimp fun σ H Q h => ?_⟩
  refine (show dG X.K T EE (repA X.K T) fs σ H _ from ?_)
  obtain ⟨_, _, _, _, h1, h2, h3⟩ := bindD (rep := repA X.K T) h
  refine ⟨_, _, _, _, h1, h2, h3.imp fun vs H1 ⟨l, γ1, hid, S1, ρ, q1, q3, q4, q5⟩ => ?_⟩
  obtain ⟨d, e, w5⟩ := opt_ok q5
  split at e
  · cases e
    refine ⟨by rw [← q4.length]; assumption, fun p np => ?_⟩
    obtain ⟨a1, a2, a3⟩ := q1.lay np (.tup vs)
    exact w5 γ1 _ _ a1 a2 (.tup (SqT.of (a3 hid (q1.fresh np).2)) (by assumption) (a2.rpl q4))
  · cases e
theorem evL_lst (h : EvA X T EE es fs) : EvL X T EE (.List es pos) (fun ρ => M.bind (fs ρ) fun l => M.opt fun _ => if l.length ≤ sizeLine then some l else none) := by
  refine ⟨(pe_lst h.pa).dimp fun σ H Q h => ?_⟩
  refine (show dG X.K T EE (repA X.K T) fs σ H _ from ?_)
  obtain ⟨_, _, _, _, h1, h2, h3⟩ := bindD (rep := repA X.K T) h
  refine ⟨_, _, _, _, h1, h2, h3.imp fun vs H1 ⟨l, γ1, hid, S1, ρ, q1, q3, q4, q5⟩ => ?_⟩
  obtain ⟨d, e, w5⟩ := opt_ok q5
  split at e
  · cases e
    refine ⟨by rw [← q4.length]; assumption, fun p np => ?_⟩
    exact w5 γ1 H1 vs q1 (Ext.refl _ _ _) ⟨by assumption, q4⟩ p np
  · cases e
/-- a new list, frozen -/
theorem ev_frz {fl : En → M (List D)} (h : EvL X T EE e fl) : EvE X T EE e (fun ρ => M.bind (fl ρ) fun l => kon (.lst l)) := by
  refine ⟨h.pe.dimp fun σ H Q h => ?_⟩
  refine (show dG X.K T EE (repL X.K T) fl σ H _ from ?_)
  obtain ⟨_, _, _, _, h1, h2, h3⟩ := bindD (rep := repL X.K T) h
  refine ⟨_, _, _, _, h1, h2, h3.imp fun vs H1 ⟨l, γ1, hid, S1, ρ, q1, q3, q4, q5⟩ p np => ?_⟩
  obtain ⟨a1, a2, a3⟩ := q1.lay np (.lst vs)
  exact q5 γ1 _ _ a1 a2 (.lst (SqL.of (a3 hid (q1.fresh np).2)) q4.1 (a2.rpl q4.2))
/-- a new list, a cell -/
def newC (l : List D) : M D := M.chg fun S => if flatL l = true then some (.ref S.length, S ++ [⟨true, .lst l⟩]) else none
theorem ev_cell {fl : En → M (List D)} (h : EvL X T EE e fl) : EvE X T EE e (fun ρ => M.bind (fl ρ) newC) := by
  refine ⟨h.pe.dimp fun σ H Q h => ?_⟩
  refine (show dG X.K T EE (repL X.K T) fl σ H _ from ?_)
  obtain ⟨_, _, _, _, h1, h2, h3⟩ := bindD (rep := repL X.K T) h
  refine ⟨_, _, _, _, h1, h2, h3.imp fun vs H1 ⟨l, γ1, hid, S1, ρ, q1, q3, q4, q5⟩ p np => ?_⟩
  unfold newC M.chg at q5
  by_cases fl : flatL l = true
  · simp only [if_pos fl] at q5
    obtain ⟨a1, a2⟩ := q1.newCell np (.lst q4.1 (RpL.toflat _ _ fl q4.2))
    refine q5 _ _ _ a1 a2 (.ref ?_)
    rw [← q1.len, List.getElem?_append_right (Nat.le_refl _), Nat.sub_self]
    rfl
  · simp only [if_neg fl] at q5
    exact q5.elim
/-- a cell that is read from now on -/
def fzM (d : D) : M D := M.chg fun S => match d with
  | .ref n => match S[n]? with
    | some ⟨_, .lst l⟩ => some (.lst l, S.set n ⟨false, .lst l⟩)
    | _ => none
  | d => some (d, S)
theorem Hold.fz {K : PySem.W.Frag} {γ hid : List Addr} {S S' : Cells} {H : Hp} {d d' : D} {v : V} (h : Hold K T γ hid S H) (r : Rp K T γ (out γ S hid H) d v) (e : fzM d S = .ok d' S') : Hold K T γ hid S' H ∧ Ext γ S H γ S' H ∧ Rp K T γ (out γ S' hid H) d' v := by
  unfold fzM M.chg at e
  cases r with
  | ref a =>
    rename_i n a'
    cases q : S[n]? with
    | none => simp [q] at e
    | some c =>
      obtain ⟨b, c⟩ := c
      cases c with
      | lst l =>
        simp only [q] at e
        cases e
        obtain ⟨a1, a2⟩ := h.freeze q
        obtain ⟨vs, h1, z, h2⟩ := h.list a q
        refine ⟨a1, a2, .lst (SqL.of (out_some.mpr ⟨fun z => h.hidG _ z (List.mem_of_getElem? a), ?_, h1⟩)) z ((RpL.nil_any (a2.sameH hid) h2))⟩
        exact a1.live a (List.getElem?_set_self (List.getElem?_eq_some_iff.mp q).1)
      | ins k fs => simp [q] at e
  | non => cases e; exact ⟨h, Ext.refl _ _ _, .non⟩
  | bl b => cases e; exact ⟨h, Ext.refl _ _ _, .bl b⟩
  | int i => cases e; exact ⟨h, Ext.refl _ _ _, .int i⟩
  | str x z => cases e; exact ⟨h, Ext.refl _ _ _, .str x z⟩
  | lst a z b => cases e; exact ⟨h, Ext.refl _ _ _, .lst a z b⟩
  | tup a z b => cases e; exact ⟨h, Ext.refl _ _ _, .tup a z b⟩
  | obj a b c => cases e; exact ⟨h, Ext.refl _ _ _, .obj a b c⟩
theorem fzM_noerr {d : D} {S S' : Cells} {x : Xc} : fzM d S ≠ .err x S' := by
  unfold fzM M.chg
  split <;> simp
theorem ev_fz (h : EvE X T EE e f) : EvE X T EE e (fun ρ => M.bind (f ρ) fzM) := by
  refine ⟨h.pe.dimp fun σ H Q h => ?_⟩
  refine (show dG X.K T EE (repE X.K T) f σ H _ from ?_)
  obtain ⟨_, _, _, _, h1, h2, h3⟩ := bindD (rep := repE X.K T) h
  refine ⟨_, _, _, _, h1, h2, h3.imp fun v H1 ⟨d, γ1, hid, S1, ρ, q1, q3, q4, q5⟩ => ?_⟩
  cases q : fzM d S1 with
  | ok d' S' =>
    rw [q] at q5
    obtain ⟨a1, a2, a3⟩ := q1.fz q4 q
    exact q5 _ _ _ a1 a2 a3
  | err x S' => exact absurd q fzM_noerr
  | stuck =>
    rw [q] at q5
    exact q5.elim
end

/-! ### statements -/
inductive Out where
  | nx (ρ : En) (S : Cells) | rt (d : D) (S : Cells) | bk (ρ : En) (S : Cells) | ct (ρ : En) (S : Cells) | er (x : Xc) (ρ : En) (S : Cells) | stuck
abbrev SM := En → Cells → Out
section
variable (K : PySem.W.Frag) (T : Tab) (EE : XX)
def resS (γ hid : List Addr) (S : Cells) (H : Hp) (o : Out) (Dn : Ends) : Prop := match o with
  | .nx ρ' S' => ∀ (γ' : List Addr) (H' : Hp) (σ' : St), Hold K T γ' hid S' H' → Ext γ S H γ' S' H' → EnvR K T γ' (out γ' S' hid H') ρ' σ' → Dn.nx σ' H'
  | .rt d S' => ∀ (γ' : List Addr) (H' : Hp) (v : V), Hold K T γ' hid S' H' → Ext γ S H γ' S' H' → Rp K T γ' (out γ' S' hid H') d v → Dn.rt v H'
  | .bk ρ' S' => ∀ (γ' : List Addr) (H' : Hp) (σ' : St), Hold K T γ' hid S' H' → Ext γ S H γ' S' H' → EnvR K T γ' (out γ' S' hid H') ρ' σ' → Dn.bk σ' H'
  | .ct ρ' S' => ∀ (γ' : List Addr) (H' : Hp) (σ' : St), Hold K T γ' hid S' H' → Ext γ S H γ' S' H' → EnvR K T γ' (out γ' S' hid H') ρ' σ' → Dn.ct σ' H'
  | .er x ρ' S' => ∀ (γ' : List Addr) (H' : Hp) (σ' : St), Hold K T γ' hid S' H' → Ext γ S H γ' S' H' → EnvR K T γ' (out γ' S' hid H') ρ' σ' → EE x ρ' γ' hid S' H' σ'
  | .stuck => False
def dS (F : SM) : TS := fun Dn σ H => ∃ γ hid S ρ, Hold K T γ hid S H ∧ EnvR K T γ (out γ S hid H) ρ σ ∧ resS K T EE γ hid S H (F ρ S) Dn
end
structure EvS (X : Cx) (T : Tab) (EE : XX) (st : Stmt) (F : SM) : Prop where
  ps : PS X st (dS X.K T EE F)
structure EvSs (X : Cx) (T : Tab) (EE : XX) (st : List Stmt) (F : SM) : Prop where
  ps : PSs X st (dS X.K T EE F)
theorem _root_.L2.PS.dimp {X : Cx} {e : Stmt} {t t' : TS} (h : PS X e t) (i : ∀ Dn σ H, t' Dn σ H → t Dn σ H) : PS X e t' := ⟨fun pins s σ H Q I q => h.run pins s σ H Q I (i _ _ _ q)⟩
theorem _root_.L2.PSs.dimp {X : Cx} {e : List Stmt} {t t' : TS} (h : PSs X e t) (i : ∀ Dn σ H, t' Dn σ H → t Dn σ H) : PSs X e t' := ⟨fun pins s σ H Q I q => h.run pins s σ H Q I (i _ _ _ q)⟩
section
variable {K : PySem.W.Frag} {T : Tab} {EE : XX}
theorem resS.base {γ γ1 hid : List Addr} {S S1 : Cells} {H H1 : Hp} {o : Out} {Dn : Ends} (h : resS K T EE γ hid S H o Dn) (e : Ext γ S H γ1 S1 H1) : resS K T EE γ1 hid S1 H1 o Dn := by
  cases o with
  | nx ρ S' => exact fun γ' H' σ' a1 a2 a3 => h γ' H' σ' a1 (e.trans a2) a3
  | rt d S' => exact fun γ' H' σ' a1 a2 a3 => h γ' H' σ' a1 (e.trans a2) a3
  | bk ρ S' => exact fun γ' H' σ' a1 a2 a3 => h γ' H' σ' a1 (e.trans a2) a3
  | ct ρ S' => exact fun γ' H' σ' a1 a2 a3 => h γ' H' σ' a1 (e.trans a2) a3
  | er x ρ S' => exact fun γ' H' σ' a1 a2 a3 => h γ' H' σ' a1 (e.trans a2) a3
  | stuck => exact h
def bindS {α : Type} (f : En → M α) (g : α → SM) : SM := fun ρ S => match f ρ S with
  | .ok a S' => g a ρ S'
  | .err x S' => .er x ρ S'
  | .stuck => .stuck
/-- an expression at a statement's start -/
theorem bindSR {α β : Type} {rep : List Addr → Hp → α → β → Prop} {γ hid : List Addr} {S : Cells} {H : Hp} {ρ : En} {σ : St} {Dn : Ends} {f : En → M α} {g : α → SM}
    (hold : Hold K T γ hid S H) (env : EnvR K T γ (out γ S hid H) ρ σ) (h : resS K T EE γ hid S H (bindS f g ρ S) Dn) :
    dG K T EE rep f σ H fun b H1 => ∃ a γ1 S1, Hold K T γ1 hid S1 H1 ∧ Ext γ S H γ1 S1 H1 ∧ EnvR K T γ1 (out γ1 S1 hid H1) ρ σ ∧ rep γ1 (out γ1 S1 hid H1) a b ∧ resS K T EE γ1 hid S1 H1 (g a ρ S1) Dn := by
  refine ⟨γ, hid, S, ρ, hold, env, ?_⟩
  unfold bindS at h
  cases q : f ρ S with
  | ok a S1 =>
    rw [q] at h
    exact fun γ1 H1 b a1 a2 a3 => ⟨a, γ1, S1, a1, a2, env.mono a2.pre (a2.sameH hid), a3, h.base a2⟩
  | err x S1 =>
    rw [q] at h
    exact fun γ' H' a1 a2 => h γ' H' σ a1 a2 (env.mono a2.pre (a2.sameH hid))
  | stuck =>
    rw [q] at h
    exact h
theorem bindSD {α β : Type} {rep : List Addr → Hp → α → β → Prop} {σ : St} {H : Hp} {Dn : Ends} {f : En → M α} {g : α → SM} (h : dS K T EE (bindS f g) Dn σ H) :
    dG K T EE rep f σ H fun b H1 => ∃ a γ1 hid S1 ρ, Hold K T γ1 hid S1 H1 ∧ EnvR K T γ1 (out γ1 S1 hid H1) ρ σ ∧ rep γ1 (out γ1 S1 hid H1) a b ∧ resS K T EE γ1 hid S1 H1 (g a ρ S1) Dn := by
  obtain ⟨γ, hid, S, ρ, hold, env, h⟩ := h
  obtain ⟨_, _, _, _, h1, h2, h3⟩ := bindSR (rep := rep) hold env h
  exact ⟨_, _, _, _, h1, h2, h3.imp fun b H1 ⟨a, γ1, S1, q1, q2, q3, q4, q5⟩ => ⟨a, γ1, hid, S1, ρ, q1, q3, q4, q5⟩⟩
end
section
variable {X : Cx} {T : Tab} {EE : XX} {a b e : Expr} {st : Stmt} {rest : List Stmt} {f : En → M D} {F G : SM} {pos : Pos}
def nxS : SM := fun ρ S => .nx ρ S
def seqS (F G : SM) : SM := fun ρ S => match F ρ S with
  | .nx ρ' S' => G ρ' S'
  | o => o
theorem es_nil : EvSs X T EE [] nxS := ⟨pss_nil.dimp fun Dn σ H h => by
  obtain ⟨γ, hid, S, ρ, hold, env, h⟩ := h
  exact h γ H σ hold (Ext.refl _ _ _) env⟩
theorem es_cons (h1 : EvS X T EE st F) (h2 : EvSs X T EE rest G) : EvSs X T EE (st :: rest) (seqS F G) := by
  refine ⟨(pss_cons h1.ps h2.ps).dimp fun Dn σ H h => ?_⟩
  obtain ⟨γ, hid, S, ρ, hold, env, h⟩ := h
  refine ⟨γ, hid, S, ρ, hold, env, ?_⟩
  unfold seqS at h
  cases q : F ρ S with
  | nx ρ' S' =>
    rw [q] at h
    exact fun γ' H' σ' a1 a2 a3 => ⟨γ', hid, S', ρ', a1, a3, h.base a2⟩
  | rt d S' => rw [q] at h; exact h
  | bk ρ S' => rw [q] at h; exact h
  | ct ρ S' => rw [q] at h; exact h
  | er x ρ S' => rw [q] at h; exact h
  | stuck => rw [q] at h; exact h
theorem es_one (h1 : EvS X T EE st F) : EvSs X T EE [st] F := ⟨pss_one h1.ps⟩
theorem es_pass : EvS X T EE (.Pass pos) nxS := ⟨ps_pass.dimp fun Dn σ H h => by
  obtain ⟨γ, hid, S, ρ, hold, env, h⟩ := h
  exact h γ H σ hold (Ext.refl _ _ _) env⟩
theorem es_break : EvS X T EE (.Break pos) (fun ρ S => .bk ρ S) := ⟨ps_break.dimp fun Dn σ H h => by
  obtain ⟨γ, hid, S, ρ, hold, env, h⟩ := h
  exact h γ H σ hold (Ext.refl _ _ _) env⟩
theorem es_continue : EvS X T EE (.Continue pos) (fun ρ S => .ct ρ S) := ⟨ps_continue.dimp fun Dn σ H h => by
  obtain ⟨γ, hid, S, ρ, hold, env, h⟩ := h
  exact h γ H σ hold (Ext.refl _ _ _) env⟩
theorem es_never : EvS X T EE st (fun _ _ => .stuck) := ⟨ps_never.dimp fun Dn σ H h => by
  obtain ⟨γ, hid, S, ρ, hold, env, h⟩ := h
  exact h⟩
theorem es_expr (he : EvE X T EE e f) (hs : swapsWith e none pos.line X.env = pure false := by rfl) : EvS X T EE (.Expr e pos) (bindS f fun _ => nxS) := by
  refine ⟨(ps_expr he.pe hs).dimp fun Dn σ H h => ?_⟩
  refine (show dG X.K T EE (repE X.K T) f σ H _ from ?_)
  obtain ⟨_, _, _, _, h1, h2, h3⟩ := bindSD (rep := repE X.K T) h
  refine ⟨_, _, _, _, h1, h2, h3.imp fun v H1 ⟨d, γ1, hid, S1, ρ, q1, q3, q4, q5⟩ => ?_⟩
  exact q5 γ1 H1 σ q1 (Ext.refl _ _ _) q3
theorem es_ret (he : EvE X T EE e f) : EvS X T EE (.Return (some e) pos) (bindS f fun d _ S => .rt d S) := by
  refine ⟨(ps_ret he.pe).dimp fun Dn σ H h => ?_⟩
  refine (show dG X.K T EE (repE X.K T) f σ H _ from ?_)
  obtain ⟨_, _, _, _, h1, h2, h3⟩ := bindSD (rep := repE X.K T) h
  refine ⟨_, _, _, _, h1, h2, h3.imp fun v H1 ⟨d, γ1, hid, S1, ρ, q1, q3, q4, q5⟩ => ?_⟩
  exact q5 γ1 H1 v q1 (Ext.refl _ _ _) q4
theorem es_retN : EvS X T EE (.Return none pos) (fun _ S => .rt .non S) := ⟨ps_retN.dimp fun Dn σ H h => by
  obtain ⟨γ, hid, S, ρ, hold, env, h⟩ := h
  exact h γ H .non hold (Ext.refl _ _ _) .non⟩
theorem es_if {c : Expr} {as bs : List Stmt} {tc : En → M Bool} (hc : EvT X T EE c tc) (ha : EvSs X T EE as F) (hb : EvSs X T EE bs G) : EvS X T EE (.If c as bs pos) (bindS tc fun k => if k = true then F else G) := by
  refine ⟨(ps_if hc.pt ha.ps hb.ps).dimp fun Dn σ H h => ?_⟩
  refine (show dG X.K T EE repB tc σ H _ from ?_)
  obtain ⟨_, _, _, _, h1, h2, h3⟩ := bindSD (rep := repB) h
  refine ⟨_, _, _, _, h1, h2, h3.imp fun c H1 ⟨k, γ1, hid, S1, ρ, q1, q3, q4, q5⟩ => ?_⟩
  have q4' : k = c := q4
  subst q4'
  cases k with
  | true =>
    rw [if_pos rfl] at q5
    rw [if_pos rfl]
    exact ⟨γ1, hid, S1, ρ, q1, q3, q5⟩
  | false =>
    rw [if_neg Bool.false_ne_true] at q5
    rw [if_neg Bool.false_ne_true]
    exact ⟨γ1, hid, S1, ρ, q1, q3, q5⟩
/-- name = e -/
theorem es_set {i : Nat} {x : Str} {pos' : Pos} (hN : X.N.Nodup) (hi : X.N[i]? = some x) (hx : Loc X.env.scope x) (he : EvE X T EE e f) (hs : swapsWith e (some (.Name x pos')) pos.line X.env = pure false := by rfl) (hf : X.fn x = true ∨ X.env.scope.names.lookup x = some .local := by first | exact .inl rfl | exact .inr rfl | assumption) :
    EvS X T EE (.Assign [.Name x pos'] e pos) (bindS f fun d ρ S => .nx (ρ.set i (some d)) S) := by
  refine ⟨(ps_set hN hi hx he.pe hs hf).dimp fun Dn σ H h => ?_⟩
  refine (show dG X.K T EE (repE X.K T) f σ H _ from ?_)
  obtain ⟨_, _, _, _, h1, h2, h3⟩ := bindSD (rep := repE X.K T) h
  refine ⟨_, _, _, _, h1, h2, h3.imp fun v H1 ⟨d, γ1, hid, S1, ρ, q1, q3, q4, q5⟩ => ?_⟩
  exact q5 γ1 H1 _ q1 (Ext.refl _ _ _) (q3.set i q4)
/-- name op= e -/
theorem es_aug {i : Nat} {x : Str} {pos' : Pos} {o : Operator} {op : D → D → Cells → Option D} (hN : X.N.Nodup) (hi : X.N[i]? = some x) (hx : Loc X.env.scope x) (ho : OpR X (inplaceOp o) (rO X.K T op)) (he : EvE X T EE e f) (hf : X.fn x = true ∨ X.env.scope.names.lookup x = some .local := by first | exact .inl rfl | exact .inr rfl | assumption) :
    EvS X T EE (.AugAssign (.Name x pos') o e pos) (bindS (fun ρ => M.bind (rd ρ i) fun x => M.bind (f ρ) fun y => M.opt (op x y)) fun d ρ S => .nx (ρ.set i (some d)) S) := by
  have hp : PIp X o (rO X.K T op) := fun pins s σ H x y v u Q I r1 r2 h => ho pins s σ H x y v u Q I r1 r2 h
  refine ⟨(ps_aug hN hi hx he.pe hp hf).dimp fun Dn σ H h => ?_⟩
  obtain ⟨γ, hid, S, ρ, hold, env, h⟩ := h
  cases q : rd ρ i S with
  | ok d S' =>
    unfold rd at q
    split at q
    · rename_i d0 e0
      cases q
      obtain ⟨v, e1, rv⟩ := env.get i d e0
      refine ⟨v, e1, ?_⟩
      have h' : resS X.K T EE γ hid S H (bindS (fun ρ => M.bind (f ρ) fun y => M.opt (op d y)) (fun d ρ S => .nx (ρ.set i (some d)) S) ρ S) Dn := by
        unfold bindS M.bind rd at h
        simp only [e0] at h
        exact h
      refine (show dG X.K T EE (repE X.K T) f σ H _ from ?_)
      have h2 : resS X.K T EE γ hid S H (bindS f (fun y => bindS (fun _ => M.opt (op d y)) (fun d ρ S => .nx (ρ.set i (some d)) S)) ρ S) Dn := by
        unfold bindS M.bind at h'
        unfold bindS
        cases q : f ρ S with
        | ok y S' => simp only [q] at h'; exact h'
        | err x S' => simp only [q] at h'; exact h'
        | stuck => simp only [q] at h'; exact h'
      obtain ⟨_, _, _, _, g1, g2, g3⟩ := bindSR (rep := repE X.K T) hold env h2
      refine ⟨_, _, _, _, g1, g2, g3.imp fun y H1 ⟨d2, γ1, S1, q1, q2, q3, q4, q5⟩ => ?_⟩
      unfold bindS M.opt at q5
      cases w : op d d2 S1 with
      | none =>
        simp only [w] at q5
        exact q5.elim
      | some z =>
        simp only [w] at q5
        exact ⟨γ1, hid, S1, d, d2, z, q1, q2.rp rv, q4, w, fun γ' H' v c1 c2 c3 => q5 γ' H' _ c1 c2 ((q3.mono c2.pre (c2.sameH hid)).set i c3)⟩
    · cases q
  | err x S' =>
    unfold rd at q
    split at q <;> cases q
  | stuck =>
    unfold bindS M.bind at h
    simp only [q] at h
    exact h.elim
end
end DL
end
section
set_option maxHeartbeats 2000000
/-! DLc: targets, what is walked, for, while, comprehensions. -/
namespace DL
open PySem PySem.Spec L2
open PyProof.Rows hiding St

/-! ### targets: names and tuples of targets -/
inductive Pat where
  | nm (i : Nat) | tp (l : List Pat)
mutual
def Pat.put : Pat → D → En → Option En
  | .nm i, d, ρ => some (ρ.set i (some d))
  | .tp ps, d, ρ => match d with
    | .tup ds => putL ps ds ρ
    | _ => none
def putL : List Pat → List D → En → Option En
  | [], [], ρ => some ρ
  | p :: ps, d :: ds, ρ => match p.put d ρ with
    | some ρ' => putL ps ds ρ'
    | none => none
  | _, _, _ => none
end
mutual
def Pat.tg (K : PySem.W.Frag) : Pat → TG
  | .nm i => gName i
  | .tp ps => gTup K ps.length (tgL K ps)
def tgL (K : PySem.W.Frag) : List Pat → TGs
  | [] => gNil
  | p :: ps => gCons (p.tg K) (tgL K ps)
end
mutual
def Pat.slots : Pat → List Nat
  | .nm i => [i]
  | .tp ps => slotsL ps
def slotsL : List Pat → List Nat
  | [] => []
  | p :: ps => p.slots ++ slotsL ps
end
structure EvG (X : Cx) (e : Expr) (p : Pat) : Prop where
  pg : PG X e (p.tg X.K)
structure EvGs (X : Cx) (es : List Expr) (ps : List Pat) : Prop where
  pgs : PGs X es (tgL X.K ps)
section
variable {X : Cx} {pos : Pos}
theorem eg_name (i : Nat) {x : Str} (hN : X.N.Nodup) (hi : X.N[i]? = some x) (hx : Loc X.env.scope x) (hf : X.fn x = true ∨ X.env.scope.names.lookup x = some .local := by first | exact .inl rfl | exact .inr rfl | assumption) : EvG X (.Name x pos) (.nm i) := ⟨pg_name hN hi hx hf⟩
theorem egs_nil : EvGs X [] [] := ⟨pgs_nil⟩
theorem egs_cons {e : Expr} {es : List Expr} {p : Pat} {ps : List Pat} (h1 : EvG X e p) (h2 : EvGs X es ps) (hs : (assignEach (e :: es) X.env).map (·.2) = assign e X.env :: (assignEach es X.env).map (·.2) := by rfl) : EvGs X (e :: es) (p :: ps) := ⟨pgs_cons h1.pg h2.pgs hs⟩
theorem eg_tup {es : List Expr} {k : Nat} {ps : List Pat} (hc : X.calm = true) (h : EvGs X es ps) (hn : (assignEach es X.env).length = ps.length := by rfl) (hst : (assignEach es X.env).findIdx? (·.1) = none := by rfl) : EvG X (.Tuple es k pos) (.tp ps) := ⟨pg_tup hc h.pgs hn hst⟩
end
theorem wipe_get (σ : St) : ∀ (vs : List Nat) (j : Nat), (wipe σ vs)[j]? = if j ∈ vs then (if j < σ.length then some none else none) else σ[j]?
  | [], j => by simp [wipe]
  | v :: vs, j => by
    unfold wipe
    rw [List.getElem?_set, wipe_get σ vs j, wipe_length]
    by_cases h : v = j
    · subst h
      simp
    · simp [h, Ne.symm h]
theorem wipe_set {σ : St} {vs : List Nat} {i : Nat} {x : Option V} (h : i ∈ vs) : wipe (σ.set i x) vs = wipe σ vs := by
  apply List.ext_getElem?
  intro j
  rw [wipe_get, wipe_get, List.length_set]
  by_cases hj : j ∈ vs
  · rw [if_pos hj, if_pos hj]
  · rw [if_neg hj, if_neg hj, List.getElem?_set_ne]
    rintro rfl
    exact hj h
theorem wipe_wipe (σ : St) (vs : List Nat) : wipe (wipe σ vs) vs = wipe σ vs := by
  apply List.ext_getElem?
  intro j
  rw [wipe_get, wipe_length, wipe_get]
  by_cases hj : j ∈ vs
  · rw [if_pos hj, if_pos hj]
  · rw [if_neg hj, if_neg hj]
section
variable {K : PySem.W.Frag} {T : Tab} {γ : List Addr} {F H : Hp}
mutual
theorem put_ok (hs : Same F H) : ∀ (p : Pat) (d : D) (v : V) (ρ ρ' : En) (σ : St) (Q : St → Hp → Prop), EnvR K T γ F ρ σ → Rp K T γ F d v → p.put d ρ = some ρ' →
    (∀ σ', EnvR K T γ F ρ' σ' → (∀ vs : List Nat, (∀ i ∈ p.slots, i ∈ vs) → wipe σ' vs = wipe σ vs) → Q σ' H) → p.tg K v σ H Q
  | .nm i, d, v, ρ, ρ', σ, Q, env, r, e, q => by
    unfold Pat.put at e
    cases e
    unfold Pat.tg
    exact q _ (env.set i r) fun vs h => wipe_set (h i (by simp [Pat.slots]))
  | .tp ps, .tup ds, v, ρ, ρ', σ, Q, env, r, e, q => by
    unfold Pat.put at e
    unfold Pat.tg
    cases r with
    | tup a z b =>
      have hl : ds.length = ps.length := putL_len ps ds ρ ρ' e
      refine ⟨_, _, rfl, same_seqT hs a, by rw [← b.length, hl], ?_⟩
      exact putL_ok hs ps ds _ ρ ρ' σ Q env b e fun σ' h1 h2 => q σ' h1 fun vs h => h2 vs (by unfold Pat.slots at h; exact h)
  | .tp ps, .non, _, _, _, _, _, _, _, e, _ => by unfold Pat.put at e; cases e
  | .tp ps, .bl _, _, _, _, _, _, _, _, e, _ => by unfold Pat.put at e; cases e
  | .tp ps, .int _, _, _, _, _, _, _, _, e, _ => by unfold Pat.put at e; cases e
  | .tp ps, .str _, _, _, _, _, _, _, _, e, _ => by unfold Pat.put at e; cases e
  | .tp ps, .lst _, _, _, _, _, _, _, _, e, _ => by unfold Pat.put at e; cases e
  | .tp ps, .ref _, _, _, _, _, _, _, _, e, _ => by unfold Pat.put at e; cases e
  | .tp ps, .obj _ _, _, _, _, _, _, _, _, e, _ => by unfold Pat.put at e; cases e
theorem putL_ok (hs : Same F H) : ∀ (ps : List Pat) (ds : List D) (vs : List V) (ρ ρ' : En) (σ : St) (Q : St → Hp → Prop), EnvR K T γ F ρ σ → RpL K T γ F ds vs → putL ps ds ρ = some ρ' →
    (∀ σ', EnvR K T γ F ρ' σ' → (∀ ws : List Nat, (∀ i ∈ slotsL ps, i ∈ ws) → wipe σ' ws = wipe σ ws) → Q σ' H) → tgL K ps vs σ H Q
  | [], [], _, ρ, ρ', σ, Q, env, r, e, q => by
    cases r
    unfold putL at e
    cases e
    unfold tgL
    exact ⟨rfl, q σ env fun _ _ => rfl⟩
  | p :: ps, d :: ds, _, ρ, ρ', σ, Q, env, r, e, q => by
    cases r with
    | cons a b =>
      unfold putL at e
      cases e1 : p.put d ρ with
      | none => rw [e1] at e; cases e
      | some ρ1 =>
        rw [e1] at e
        unfold tgL
        refine ⟨_, _, rfl, put_ok hs p d _ ρ ρ1 σ _ env a e1 fun σ1 h1 h2 => ?_⟩
        refine putL_ok hs ps ds _ ρ1 ρ' σ1 Q h1 b e fun σ2 h3 h4 => q σ2 h3 fun ws hw => ?_
        rw [h4 ws fun i hi => hw i (by unfold slotsL; exact List.mem_append_right _ hi), h2 ws fun i hi => hw i (by unfold slotsL; exact List.mem_append_left _ hi)]
  | [], d :: ds, _, _, _, _, _, _, _, e, _ => by unfold putL at e; cases e
  | p :: ps, [], _, _, _, _, _, _, _, e, _ => by unfold putL at e; cases e
theorem putL_len : ∀ (ps : List Pat) (ds : List D) (ρ ρ' : En), putL ps ds ρ = some ρ' → ds.length = ps.length
  | [], [], _, _, _ => rfl
  | p :: ps, d :: ds, ρ, ρ', e => by
    unfold putL at e
    cases e1 : p.put d ρ with
    | none => rw [e1] at e; cases e
    | some ρ1 =>
      rw [e1] at e
      simp [putL_len ps ds ρ1 ρ' e]
  | [], d :: ds, _, _, e => by unfold putL at e; cases e
  | p :: ps, [], _, _, e => by unfold putL at e; cases e
end
end
section
variable {X : Cx} {T : Tab} {EE : XX} {e tg : Expr} {f : En → M D} {pos : Pos}
/-- target = e -/
def asgD (f : En → M D) (p : Pat) : SM := bindS f fun d ρ S => match p.put d ρ with
  | some ρ' => .nx ρ' S
  | none => .stuck
theorem es_asg {p : Pat} (he : EvE X T EE e f) (hg : EvG X tg p) (hs : swapsWithSole [tg] e pos.line X.env = pure false := by rfl) (hw : swappedStores [tg] e X.env = pure none := by rfl)
    (h1 : (assignEach [tg] X.env).map (·.2) = [assign tg X.env] := by rfl) : EvS X T EE (.Assign [tg] e pos) (asgD f p) := by
  refine ⟨(ps_asg he.pe hg.pg hs hw h1).dimp fun Dn σ H h => ?_⟩
  refine (show dG X.K T EE (repE X.K T) f σ H _ from ?_)
  obtain ⟨_, _, _, _, h1, h2, h3⟩ := bindSD (rep := repE X.K T) h
  refine ⟨_, _, _, _, h1, h2, h3.imp fun v H1 ⟨d, γ1, hid, S1, ρ, q1, q3, q4, q5⟩ => ?_⟩
  cases e1 : p.put d ρ with
  | none =>
    rw [e1] at q5
    exact q5.elim
  | some ρ' =>
    rw [e1] at q5
    exact put_ok (out_sub _ _ _ _) p d v ρ ρ' σ _ q3 q4 e1 fun σ' a1 _ => q5 γ1 H1 σ' q1 (Ext.refl _ _ _) a1
/-- a, b = x, y (plain local names) -/
theorem es_par {i j : Nat} {x y : Str} {a b : Expr} {fs : En → M (List D)} {px py pt : Pos} {kt k2 : Nat} {pt2 : Pos} (hc : X.calm = true) (hN : X.N.Nodup) (hi : X.N[i]? = some x) (hj : X.N[j]? = some y) (hij : i ≠ j)
    (hx : X.env.scope.names.lookup x = some .local) (hy : X.env.scope.names.lookup y = some .local) (ha : EvA X T EE [a, b] fs)
    (hw : swappedStores [.Tuple [.Name x px, .Name y py] kt pt] (.Tuple [a, b] k2 pt2) X.env = pure (some [x, y]))
    (hs : swapsWithSole [.Tuple [.Name x px, .Name y py] kt pt] (.Tuple [a, b] k2 pt2) pos.line X.env = pure false := by rfl) :
    EvS X T EE (.Assign [.Tuple [.Name x px, .Name y py] kt pt] (.Tuple [a, b] k2 pt2) pos) (bindS fs fun l ρ S => match l with
      | [d, e] => .nx ((ρ.set i (some d)).set j (some e)) S
      | _ => .stuck) := by
  refine ⟨(ps_par hc hN hi hj hij hx hy ha.pa hw hs).dimp fun Dn σ H h => ?_⟩
  refine (show dG X.K T EE (repA X.K T) fs σ H _ from ?_)
  obtain ⟨_, _, _, _, h1, h2, h3⟩ := bindSD (rep := repA X.K T) h
  refine ⟨_, _, _, _, h1, h2, h3.imp fun vs H1 ⟨l, γ1, hid, S1, ρ, q1, q3, q4, q5⟩ => ?_⟩
  cases q4 with
  | nil => exact q5.elim
  | cons r1 r =>
    cases r with
    | nil => exact q5.elim
    | cons r2 r =>
      cases r with
      | nil => exact ⟨_, _, rfl, q5 γ1 H1 _ q1 (Ext.refl _ _ _) ((q3.set i r1).set j r2)⟩
      | cons r3 r => exact q5.elim
end

/-! ### what is walked -/
/-- J gives these items, whenever what stood still stands -/
def repI (K : PySem.W.Frag) (T : Tab) : List Addr → Hp → List D → It → Prop := fun γ F items J =>
  items.length ≤ sizeLine ∧ ∀ (γ2 hid2 : List Addr) (S2 : Cells) (H2 : Hp), (∀ (n : Nat) (a : Addr), γ[n]? = some a → γ2[n]? = some a) → Same F (out γ2 S2 hid2 H2) → Hold K T γ2 hid2 S2 H2 →
    (∀ i, i < items.length → J.go i H2) ∧ J.stop items.length H2 ∧
    ∀ i x H3, i < items.length → J.yld i H2 x H3 → ∃ d, items[i]? = some d ∧ Hold K T γ2 hid2 S2 H3 ∧ Ext γ2 S2 H2 γ2 S2 H3 ∧ Rp K T γ2 (out γ2 S2 hid2 H3) d x
def dI (K : PySem.W.Frag) (T : Tab) (EE : XX) (f : En → M (List D)) : TI := fun σ H R => dG K T EE (repI K T) f σ H R
structure EvI (X : Cx) (T : Tab) (EE : XX) (tg iter : Expr) (f : En → M (List D)) : Prop where
  pi : PI X tg iter (dI X.K T EE f)
theorem _root_.L2.PI.dimp {X : Cx} {tg e : Expr} {t t' : TI} (h : PI X tg e t) (i : ∀ σ H Q, t' σ H Q → t σ H Q) : PI X tg e t' := ⟨fun pins s σ H Q I q => h.run pins s σ H Q I (i _ _ _ q)⟩
theorem _root_.L2.PI.or2 {X : Cx} {tg e : Expr} {t t' : TI} (h : PI X tg e t) (h' : PI X tg e t') : PI X tg e (fun σ H R => t σ H R ∨ t' σ H R) := ⟨fun pins s σ H Q I q => q.elim (h.run pins s σ H Q I) (h'.run pins s σ H Q I)⟩
section
variable {K : PySem.W.Frag} {T : Tab} {γ : List Addr} {F : Hp}
theorem repI_list {a : Addr} {ds : List D} {vs : List V} (hq : SqL K F a vs) (z : ds.length ≤ sizeLine) (r : RpL K T γ F ds vs) : repI K T γ F ds (Itl K a) := by
  refine ⟨z, fun γ2 hid2 S2 H2 hp hs hh => ?_⟩
  have hq2 : SqL K H2 a vs := (out_sub _ _ _ _).seq (hs.seq hq)
  have hl := r.length
  refine ⟨fun i hi => ⟨vs, vs[i]'(by omega), hq2, List.getElem?_eq_getElem _⟩, ⟨vs, hq2, by omega⟩, fun i x H3 hi y => ?_⟩
  obtain ⟨e, y⟩ := y
  subst e
  obtain ⟨d, e1, r1⟩ := r.get' (y vs hq2)
  exact ⟨d, e1, hh, Ext.refl _ _ _, Rp.mono hp hs d x r1⟩
theorem repI_tup {a : Addr} {ds : List D} {vs : List V} (hq : SqT K F a vs) (z : ds.length ≤ sizeLine) (r : RpL K T γ F ds vs) : repI K T γ F ds (Itt K a) := by
  refine ⟨z, fun γ2 hid2 S2 H2 hp hs hh => ?_⟩
  have hq2 : SqT K H2 a vs := same_seqT (out_sub _ _ _ _) (same_seqT hs hq)
  have hl := r.length
  refine ⟨fun i hi => ⟨vs, vs[i]'(by omega), hq2, List.getElem?_eq_getElem _⟩, ⟨vs, hq2, by omega⟩, fun i x H3 hi y => ?_⟩
  obtain ⟨e, y⟩ := y
  subst e
  obtain ⟨d, e1, r1⟩ := r.get' (y vs hq2)
  exact ⟨d, e1, hh, Ext.refl _ _ _, Rp.mono hp hs d x r1⟩
/-- the signs of a text -/
def signsD (x : Str) : List D := x.cps.toList.map fun c => .str ⟨#[c]⟩
theorem one_sign {c : Nat} : (⟨#[c]⟩ : Str).length ≤ sizeLine := by
  rw [sizeLine_eq]
  show 1 ≤ _
  decide
theorem repI_str (x : Str) (z : x.length ≤ sizeLine) : repI K T γ F (signsD x) (Its x) := by
  have hl : (signsD x).length = x.cps.size := by simp [signsD]
  refine ⟨by rw [hl]; exact z, fun γ2 hid2 S2 H2 hp hs hh => ?_⟩
  refine ⟨fun i hi => by rw [hl] at hi; exact hi, by show x.cps.size ≤ _; omega, fun i v H3 hi y => ?_⟩
  obtain ⟨e, c, ec, ev⟩ := y
  subst e
  subst ev
  refine ⟨.str ⟨#[c]⟩, ?_, hh, Ext.refl _ _ _, .str _ one_sign⟩
  unfold signsD
  rw [List.getElem?_map, Array.getElem?_toList, ec]
  rfl
theorem repI_range (lo : Int) (n : Nat) (z : n ≤ sizeLine) : repI K T γ F ((List.range n).map fun i => D.int (lo + (i : Nat))) (Itr lo n) := by
  have hl : ((List.range n).map fun i => D.int (lo + (i : Nat))).length = n := by simp
  refine ⟨by rw [hl]; exact z, fun γ2 hid2 S2 H2 hp hs hh => ?_⟩
  refine ⟨fun i hi => by rw [hl] at hi; exact hi, by show n ≤ _; omega, fun i v H3 hi y => ?_⟩
  obtain ⟨e, ev⟩ := y
  subst e
  subst ev
  rw [hl] at hi
  refine ⟨.int (lo + i), ?_, hh, Ext.refl _ _ _, .int _⟩
  rw [List.getElem?_map, List.getElem?_range hi]
  rfl
theorem repI_rangeC (lo c : Int) (n : Nat) (z : n ≤ sizeLine) : repI K T γ F ((List.range n).map fun i => D.int (lo + (i : Nat) * c)) (Itc lo c n) := by
  have hl : ((List.range n).map fun i => D.int (lo + (i : Nat) * c)).length = n := by simp
  refine ⟨by rw [hl]; exact z, fun γ2 hid2 S2 H2 hp hs hh => ?_⟩
  refine ⟨fun i hi => by rw [hl] at hi; exact hi, by show n ≤ _; omega, fun i v H3 hi y => ?_⟩
  obtain ⟨e, ev⟩ := y
  subst e
  subst ev
  rw [hl] at hi
  refine ⟨.int (lo + (i : Nat) * c), ?_, hh, Ext.refl _ _ _, .int _⟩
  rw [List.getElem?_map, List.getElem?_range hi]
  rfl
theorem two_small : ([D.non, D.non] : List D).length ≤ sizeLine := by
  rw [sizeLine_eq]
  decide
def pairsD (l m : List D) : List D := (l.zip m).map fun p => .tup [p.1, p.2]
theorem repI_zip {a b : Addr} {ds es : List D} {vs ws : List V} (hq : SqL K F a vs) (hq' : SqL K F b ws) (z : ds.length ≤ sizeLine) (r : RpL K T γ F ds vs) (r' : RpL K T γ F es ws) : repI K T γ F (pairsD ds es) (Itz K a b) := by
  have hl := r.length
  have hl' := r'.length
  have hn : (pairsD ds es).length = min ds.length es.length := by simp [pairsD]
  refine ⟨by omega, fun γ2 hid2 S2 H2 hp hs hh => ?_⟩
  have hq2 : SqL K H2 a vs := (out_sub _ _ _ _).seq (hs.seq hq)
  have hq3 : SqL K H2 b ws := (out_sub _ _ _ _).seq (hs.seq hq')
  have W := walk_zip (K := K) (a := a) (b := b) (xs := vs) (ys := ws) (n := min ds.length es.length) (by omega)
  rw [hn]
  refine ⟨fun i hi => W.goes i H2 hi ⟨hq2, hq3⟩, W.stops H2 ⟨hq2, hq3⟩, fun i x H3 hi y => ?_⟩
  obtain ⟨t, x1, x2, e1, nt, e2, g1, g2⟩ := W.yields i H2 x H3 hi ⟨hq2, hq3⟩ y
  subst e1
  subst e2
  obtain ⟨d1, f1, r1⟩ := r.get' g1
  obtain ⟨d2, f2, r2⟩ := r'.get' g2
  obtain ⟨a1, a2, a3⟩ := hh.lay nt (.tup [x1, x2])
  refine ⟨.tup [d1, d2], ?_, a1, a2, .tup (SqT.of (a3 hid2 (hh.fresh nt).2)) two_small (.cons (a2.rp (Rp.mono hp hs _ _ r1)) (.one (a2.rp (Rp.mono hp hs _ _ r2))))⟩
  unfold pairsD
  rw [List.getElem?_map, List.getElem?_zip_eq_some (z := (d1, d2)) |>.mpr ⟨f1, f2⟩]
  rfl
def enumD (l : List D) : List D := (l.zipIdx).map fun p => .tup [.int (p.2 : Nat), p.1]
theorem repI_enum {a : Addr} {ds : List D} {vs : List V} (hq : SqL K F a vs) (z : ds.length ≤ sizeLine) (r : RpL K T γ F ds vs) : repI K T γ F (enumD ds) (Ite K a) := by
  have hl := r.length
  have hn : (enumD ds).length = ds.length := by simp [enumD]
  refine ⟨by omega, fun γ2 hid2 S2 H2 hp hs hh => ?_⟩
  have hq2 : SqL K H2 a vs := (out_sub _ _ _ _).seq (hs.seq hq)
  have W := walk_enum (K := K) (a := a) (xs := vs)
  rw [hn, hl]
  refine ⟨fun i hi => W.goes i H2 hi hq2, W.stops H2 hq2, fun i x H3 hi y => ?_⟩
  obtain ⟨t, x1, x2, e1, nt, e2, g1, g2⟩ := W.yields i H2 x H3 hi hq2 y
  subst e1
  subst e2
  cases g1
  obtain ⟨d2, f2, r2⟩ := r.get' g2
  obtain ⟨a1, a2, a3⟩ := hh.lay nt (.tup [.int (i : Nat), x2])
  refine ⟨.tup [.int (i : Nat), d2], ?_, a1, a2, .tup (SqT.of (a3 hid2 (hh.fresh nt).2)) two_small (.cons (.int _) (.one (a2.rp (Rp.mono hp hs _ _ r2))))⟩
  unfold enumD
  rw [List.getElem?_map, List.getElem?_zipIdx, f2]
  simp
end
/-- the items of what is walked -/
def itemsD (d : D) : Option (List D) := match d with
  | .lst l => some l
  | .tup l => some l
  | .str x => some (signsD x)
  | _ => none
section
variable {X : Cx} {T : Tab} {EE : XX} {tg e a b c : Expr} {f fa fb : En → M D} {fs : En → M (List D)} {p pos tpos : Pos} {elts : List Expr} {kk : Nat}
theorem ei_seq (he : EvE X T EE e f) : EvI X T EE tg e (fun ρ => M.bind (f ρ) fun d => M.opt fun _ => itemsD d) := by
  refine ⟨((pi_list he.pe).or2 ((pi_tup he.pe).or2 (pi_str he.pe))).dimp fun σ H R h => ?_⟩
  obtain ⟨γ, hid, S, ρ, hold, env, h⟩ := h
  cases q : f ρ S with
  | ok d S' =>
    have h' : resG X.K T EE (repI X.K T) γ hid S H ρ σ (M.opt (fun _ => itemsD d) S') R := by
      rw [← bind_of_ok (g := fun d => M.opt fun _ => itemsD d) q]
      exact h
    cases d with
    | lst l =>
      refine .inl ⟨γ, hid, S, ρ, hold, env, ?_⟩
      rw [q]
      intro γ' H' v a1 a2 a3
      cases a3 with
      | lst x z y => exact ⟨_, rfl, ⟨_, (out_sub _ _ _ _).seq x⟩, h' γ' H' _ a1 a2 (repI_list x z y)⟩
    | tup l =>
      refine .inr (.inl ⟨γ, hid, S, ρ, hold, env, ?_⟩)
      rw [q]
      intro γ' H' v a1 a2 a3
      cases a3 with
      | tup x z y => exact ⟨_, rfl, ⟨_, same_seqT (out_sub _ _ _ _) x⟩, h' γ' H' _ a1 a2 (repI_tup x z y)⟩
    | str x =>
      refine .inr (.inr ⟨γ, hid, S, ρ, hold, env, ?_⟩)
      rw [q]
      intro γ' H' v a1 a2 a3
      cases a3 with
      | str x z => exact ⟨_, rfl, h' γ' H' _ a1 a2 (repI_str _ z)⟩
    | non => exact (h' : False).elim
    | bl _ => exact (h' : False).elim
    | int _ => exact (h' : False).elim
    | ref _ => exact (h' : False).elim
    | obj _ _ => exact (h' : False).elim
  | err x S' =>
    have h' : resG X.K T EE (repI X.K T) γ hid S H ρ σ (.err x S') R := by
      rw [← bind_of_err (g := fun d => M.opt fun _ => itemsD d) q]
      exact h
    refine .inl ⟨γ, hid, S, ρ, hold, env, ?_⟩
    rw [q]
    exact h'
  | stuck =>
    have h' : resG X.K T EE (repI X.K T) γ hid S H ρ σ (.stuck : DL.R (List D)) R := by
      rw [← bind_of_stuck (g := fun d => M.opt fun _ => itemsD d) q]
      exact h
    exact h'.elim
def rangeD (lo hi : Int) : Option (List D) := if (-(2 ^ 62) ≤ lo ∧ lo < 2 ^ 62 ∧ -(2 ^ 62) ≤ hi ∧ hi < 2 ^ 62) ∧ (hi - lo).toNat ≤ sizeLine then some ((List.range (hi - lo).toNat).map fun i => D.int (lo + (i : Nat))) else none
def range1 (l : List D) : Option (List D) := match l with
  | [.int j] => rangeD 0 j
  | _ => none
def range2 (l : List D) : Option (List D) := match l with
  | [.int i, .int j] => rangeD i j
  | _ => none
theorem ei_range1 (hg : Gl X "range") (hm : X.mg "range" = none) (ha : EvA X T EE [a] fs) (hs : starEach [a] X.env = [(false, eval a X.env)] := by rfl) : EvI X T EE tg (.Call (.Name "range" p) [a] [] pos) (fun ρ => M.bind (fs ρ) fun l => M.opt fun _ => range1 l) := by
  refine ⟨(pi_range1 hg hm ha.pa hs).dimp fun σ H R h => ?_⟩
  refine (show dG X.K T EE (repA X.K T) fs σ H _ from ?_)
  obtain ⟨_, _, _, _, h1, h2, h3⟩ := bindD (rep := repA X.K T) h
  refine ⟨_, _, _, _, h1, h2, h3.imp fun vs H1 ⟨l, γ1, hid, S1, ρ, q1, q3, q4, q5⟩ => ?_⟩
  obtain ⟨d, e, w5⟩ := opt_ok q5
  unfold range1 at e
  split at e
  · cases q4 with
    | cons r1 r =>
      cases r1
      cases r
      unfold rangeD at e
      split at e
      · rename_i hj
        cases e
        refine ⟨_, rfl, hj.1.2.2.1, hj.1.2.2.2, ?_⟩
        rw [Int.sub_zero] at w5 hj
        exact w5 γ1 H1 _ q1 (Ext.refl _ _ _) (repI_range 0 _ hj.2)
      · cases e
  · cases e
theorem ei_range2 (hg : Gl X "range") (hm : X.mg "range" = none) (ha : EvA X T EE [a, b] fs) (hs : starEach [a, b] X.env = [(false, eval a X.env), (false, eval b X.env)] := by rfl) (hs2 : starEach [b] X.env = [(false, eval b X.env)] := by rfl) :
    EvI X T EE tg (.Call (.Name "range" p) [a, b] [] pos) (fun ρ => M.bind (fs ρ) fun l => M.opt fun _ => range2 l) := by
  refine ⟨(pi_range2 hg hm ha.pa hs hs2).dimp fun σ H R h => ?_⟩
  refine (show dG X.K T EE (repA X.K T) fs σ H _ from ?_)
  obtain ⟨_, _, _, _, h1, h2, h3⟩ := bindD (rep := repA X.K T) h
  refine ⟨_, _, _, _, h1, h2, h3.imp fun vs H1 ⟨l, γ1, hid, S1, ρ, q1, q3, q4, q5⟩ => ?_⟩
  obtain ⟨d, e, w5⟩ := opt_ok q5
  unfold range2 at e
  split at e
  · cases q4 with
    | cons r1 r =>
      cases r1
      cases r with
      | cons r2 r =>
        cases r2
        cases r
        unfold rangeD at e
        split at e
        · rename_i hj
          cases e
          exact ⟨_, _, rfl, hj.1, w5 γ1 H1 _ q1 (Ext.refl _ _ _) (repI_range _ _ hj.2)⟩
        · cases e
  · cases e
def zipA (l : List D) : Option (List D) := match l with
  | [.lst x, .lst y] => some (pairsD x y)
  | _ => none
theorem ei_zip (hg : Gl X "zip") (hm : X.mg "zip" = none) (ha : EvA X T EE [a, b] fs) (hs : starEach [a, b] X.env = (false, eval a X.env) :: starEach [b] X.env := by rfl) (hpl : (backTo pos (starEach [b] X.env)).any (·.1) = false := by rfl) :
    EvI X T EE (.Tuple elts kk tpos) (.Call (.Name "zip" p) [a, b] [] pos) (fun ρ => M.bind (fs ρ) fun l => M.opt fun _ => zipA l) := by
  refine ⟨(pi_zip hg hm ha.pa hs hpl).dimp fun σ H R h => ?_⟩
  refine (show dG X.K T EE (repA X.K T) fs σ H _ from ?_)
  obtain ⟨_, _, _, _, h1, h2, h3⟩ := bindD (rep := repA X.K T) h
  refine ⟨_, _, _, _, h1, h2, h3.imp fun vs H1 ⟨l, γ1, hid, S1, ρ, q1, q3, q4, q5⟩ => ?_⟩
  obtain ⟨d, e, w5⟩ := opt_ok q5
  unfold zipA at e
  split at e
  · cases e
    cases q4 with
    | cons r1 r =>
      cases r with
      | cons r2 r =>
        cases r
        cases r1 with
        | lst x z y =>
          cases r2 with
          | lst x' z' y' => exact ⟨_, _, _, _, rfl, (out_sub _ _ _ _).seq x, (out_sub _ _ _ _).seq x', w5 γ1 H1 _ q1 (Ext.refl _ _ _) (repI_zip x x' z y y')⟩
  · cases e
def enumA (l : List D) : Option (List D) := match l with
  | [.lst x] => some (enumD x)
  | _ => none
theorem ei_enum (hg : Gl X "enumerate") (hm : X.mg "enumerate" = none) (ha : EvA X T EE [a] fs) (hs : starEach [a] X.env = [(false, eval a X.env)] := by rfl) :
    EvI X T EE (.Tuple elts kk tpos) (.Call (.Name "enumerate" p) [a] [] pos) (fun ρ => M.bind (fs ρ) fun l => M.opt fun _ => enumA l) := by
  refine ⟨(pi_enum hg hm ha.pa hs).dimp fun σ H R h => ?_⟩
  refine (show dG X.K T EE (repA X.K T) fs σ H _ from ?_)
  obtain ⟨_, _, _, _, h1, h2, h3⟩ := bindD (rep := repA X.K T) h
  refine ⟨_, _, _, _, h1, h2, h3.imp fun vs H1 ⟨l, γ1, hid, S1, ρ, q1, q3, q4, q5⟩ => ?_⟩
  obtain ⟨d, e, w5⟩ := opt_ok q5
  unfold enumA at e
  split at e
  · cases e
    cases q4 with
    | cons r1 r =>
      cases r
      cases r1 with
      | lst x z y => exact ⟨_, _, rfl, (out_sub _ _ _ _).seq x, w5 γ1 H1 _ q1 (Ext.refl _ _ _) (repI_enum x z y)⟩
  · cases e
end

/-! ### for -/
/-- behind a turn's body -/
def stepD (k : SM) : Out → Out
  | .nx ρ S => k ρ S
  | .ct ρ S => k ρ S
  | .bk ρ S => .nx ρ S
  | .rt d S => .rt d S
  | .er x ρ S => .er x ρ S
  | .stuck => .stuck
def putM (o : Option En) (k : En → Out) : Out := match o with
  | some ρ => k ρ
  | none => .stuck
def forD (p : Pat) (body : SM) : List D → SM
  | [], ρ, S => .nx ρ S
  | d :: ds, ρ, S => putM (p.put d ρ) fun ρ1 => stepD (forD p body ds) (body ρ1 S)
theorem forD_cons {p : Pat} {body : SM} {d : D} {ds : List D} {ρ : En} {S : Cells} : forD p body (d :: ds) ρ S = putM (p.put d ρ) fun ρ1 => stepD (forD p body ds) (body ρ1 S) := rfl
section
variable {X : Cx} {T : Tab} {EE : XX} {tg iter : Expr} {fi : En → M (List D)} {p : Pat} {body : List Stmt} {B : SM} {pos : Pos}
theorem es_for (hp : PassesOwn (model X.prog X.w) X.A X.env X.xe) (hc : X.calm = true) (hi : EvI X T EE tg iter fi) (hg : EvG X tg p) (hb : EvSs X T EE body B) (hs : ∀ x, foldedSetIterable iter X.env x = pure x := by intro _; rfl) :
    EvS X T EE (.For tg iter body [] pos) (bindS fi fun items => forD p B items) := by
  refine ⟨(ps_for hp hc hi.pi hg.pg hb.ps hs).dimp fun Dn σ H h => ?_⟩
  refine (show dG X.K T EE (repI X.K T) fi σ H _ from ?_)
  obtain ⟨_, _, _, _, h1, h2, h3⟩ := bindSD (rep := repI X.K T) h
  refine ⟨_, _, _, _, h1, h2, h3.imp fun J H1 ⟨items, γ1, hid, S1, ρ1, q1, q3, q4, q5⟩ => ?_⟩
  obtain ⟨z, q4⟩ := q4
  refine ⟨fun i m σ' H' => m = items.length - i ∧ i ≤ items.length ∧ ∃ γ2 S2 ρ2, Hold X.K T γ2 hid S2 H' ∧ (∀ (n : Nat) (a : Addr), γ1[n]? = some a → γ2[n]? = some a) ∧ Same (out γ1 S1 hid H1) (out γ2 S2 hid H') ∧ EnvR X.K T γ2 (out γ2 S2 hid H') ρ2 σ' ∧
    resS X.K T EE γ2 hid S2 H' (forD p B (items.drop i) ρ2 S2) Dn, ⟨items.length, by simp, Nat.zero_le _, γ1, S1, ρ1, q1, fun _ _ z => z, Same.refl _, q3, q5⟩, ?_⟩
  rintro i m σ' H' ⟨rfl, hi, γ2, S2, ρ2, w1, w2, w3, w4, w5⟩
  obtain ⟨g1, g2, g3⟩ := q4 γ2 hid S2 H' w2 w3 w1
  by_cases hlt : i < items.length
  · refine .inr ⟨g1 i hlt, fun σ3 H3 => i + 1 ≤ items.length ∧ ∃ γ2 S2 ρ2, Hold X.K T γ2 hid S2 H3 ∧ (∀ (n : Nat) (a : Addr), γ1[n]? = some a → γ2[n]? = some a) ∧ Same (out γ1 S1 hid H1) (out γ2 S2 hid H3) ∧ EnvR X.K T γ2 (out γ2 S2 hid H3) ρ2 σ3 ∧
      resS X.K T EE γ2 hid S2 H3 (forD p B (items.drop (i + 1)) ρ2 S2) Dn, fun σ3 H3 hN => ⟨items.length - (i + 1), by omega, rfl, hN⟩, fun x H3 y => ?_⟩
    obtain ⟨d, e1, k1, k2, k3⟩ := g3 i x H3 hlt y
    have ed : items.drop i = d :: items.drop (i + 1) := by
      rw [List.drop_eq_getElem_cons hlt]
      have := (List.getElem?_eq_some_iff.mp e1).2
      rw [this]
    rw [ed, forD_cons] at w5
    have w5 := w5.base k2
    have w4 := w4.mono k2.pre (k2.sameH hid)
    cases ep : p.put d ρ2 with
    | none =>
      rw [ep] at w5
      exact w5.elim
    | some ρ3 =>
      rw [ep] at w5
      have w5 : resS X.K T EE γ2 hid S2 H3 (stepD (forD p B (items.drop (i + 1))) (B ρ3 S2)) Dn := w5
      refine put_ok (out_sub _ _ _ _) p d x ρ2 ρ3 σ' _ w4 k3 ep fun σ4 n1 _ => ?_
      refine ⟨γ2, hid, S2, ρ3, k1, n1, ?_⟩
      have go : ∀ {γ' : List Addr} {H4 : Hp} {σ5 : St} {ρ5 : En} {S5 : Cells}, Hold X.K T γ' hid S5 H4 → Ext γ2 S2 H3 γ' S5 H4 → EnvR X.K T γ' (out γ' S5 hid H4) ρ5 σ5 → resS X.K T EE γ2 hid S2 H3 (forD p B (items.drop (i + 1)) ρ5 S5) Dn →
          i + 1 ≤ items.length ∧ ∃ γ2 S2 ρ2, Hold X.K T γ2 hid S2 H4 ∧ (∀ (n : Nat) (a : Addr), γ1[n]? = some a → γ2[n]? = some a) ∧ Same (out γ1 S1 hid H1) (out γ2 S2 hid H4) ∧ EnvR X.K T γ2 (out γ2 S2 hid H4) ρ2 σ5 ∧
            resS X.K T EE γ2 hid S2 H4 (forD p B (items.drop (i + 1)) ρ2 S2) Dn := fun {γ' H4 σ5 ρ5 S5} a1 a2 a3 a4 =>
        ⟨hlt, γ', S5, ρ5, a1, fun n a z => a2.pre n a (w2 n a z), w3.trans ((k2.trans a2).sameH hid), a3, a4.base a2⟩
      cases eb : B ρ3 S2 with
      | nx ρ5 S5 =>
        rw [eb] at w5
        exact fun γ' H4 σ5 a1 a2 a3 => go a1 a2 a3 w5
      | ct ρ5 S5 =>
        rw [eb] at w5
        exact fun γ' H4 σ5 a1 a2 a3 => go a1 a2 a3 w5
      | bk ρ5 S5 =>
        rw [eb] at w5
        exact fun γ' H4 σ5 a1 a2 a3 => w5 γ' H4 σ5 a1 a2 a3
      | rt d5 S5 =>
        rw [eb] at w5
        exact w5
      | er x5 ρ5 S5 =>
        rw [eb] at w5
        exact w5
      | stuck =>
        rw [eb] at w5
        exact w5.elim
  · have e : i = items.length := by omega
    subst e
    refine .inl ⟨g2, ?_⟩
    rw [List.drop_length] at w5
    exact w5 γ2 H' σ' w1 (Ext.refl _ _ _) w4
end

/-! ### while -/
def tstM (r : DL.R Bool) (ρ : En) (k : Cells → Out) : Out := match r with
  | .ok true S => k S
  | .ok false S => .nx ρ S
  | .err x S => .er x ρ S
  | .stuck => .stuck
def whileD (c : En → M Bool) (body : SM) : Nat → SM
  | 0, _, _ => .stuck
  | n + 1, ρ, S => tstM (c ρ S) ρ fun S1 => stepD (whileD c body n) (body ρ S1)
open Classical in
/-- with as many turns as are needed -/
noncomputable def whileW (c : En → M Bool) (body : SM) : SM := fun ρ S => if h : ∃ n, whileD c body n ρ S ≠ .stuck then whileD c body (Classical.choose h) ρ S else .stuck
theorem whileD_more {c : En → M Bool} {body : SM} : ∀ (n m : Nat) (ρ : En) (S : Cells), whileD c body n ρ S ≠ .stuck → n ≤ m → whileD c body m ρ S = whileD c body n ρ S
  | 0, _, ρ, S, h, _ => absurd rfl h
  | n + 1, 0, ρ, S, h, hm => by omega
  | n + 1, m + 1, ρ, S, h, hm => by
    have h : tstM (c ρ S) ρ (fun S1 => stepD (whileD c body n) (body ρ S1)) ≠ .stuck := h
    show tstM (c ρ S) ρ (fun S1 => stepD (whileD c body m) (body ρ S1)) = tstM (c ρ S) ρ (fun S1 => stepD (whileD c body n) (body ρ S1))
    cases e : c ρ S with
    | ok b S1 =>
      rw [e] at h
      cases b with
      | false => rfl
      | true =>
        have h : stepD (whileD c body n) (body ρ S1) ≠ .stuck := h
        show stepD (whileD c body m) (body ρ S1) = stepD (whileD c body n) (body ρ S1)
        cases eb : body ρ S1 with
        | nx ρ2 S2 =>
          rw [eb] at h
          exact whileD_more n m ρ2 S2 h (by omega)
        | ct ρ2 S2 =>
          rw [eb] at h
          exact whileD_more n m ρ2 S2 h (by omega)
        | bk ρ2 S2 => rfl
        | rt d S2 => rfl
        | er x ρ2 S2 => rfl
        | stuck => rfl
    | err x S1 => rfl
    | stuck => rfl
theorem whileW_of {c : En → M Bool} {body : SM} {n : Nat} {ρ : En} {S : Cells} {o : Out} (h : whileD c body n ρ S = o) (ho : o ≠ .stuck) : whileW c body ρ S = o := by
  have hn : whileD c body n ρ S ≠ .stuck := by rw [h]; exact ho
  have hx : ∃ n, whileD c body n ρ S ≠ .stuck := ⟨n, hn⟩
  unfold whileW
  rw [dif_pos hx]
  have h2 := Classical.choose_spec hx
  rcases Nat.le_total (Classical.choose hx) n with hle | hle
  · rw [← whileD_more _ n ρ S h2 hle]
    exact h
  · rw [whileD_more n _ ρ S hn hle]
    exact h
section
variable {X : Cx} {T : Tab} {EE : XX} {c : Expr} {tc : En → M Bool} {body : List Stmt} {B : SM} {pos : Pos}
theorem es_while (hp : PassesOwn (model X.prog X.w) X.A X.env X.xe) (hc : EvT X T EE c tc) (hb : EvSs X T EE body B) : EvS X T EE (.While c body [] pos) (whileW tc B) := by
  refine ⟨(ps_while hp hc.pt hb.ps).dimp fun Dn σ H h => ?_⟩
  obtain ⟨γ, hid, S, ρ, hold, env, h⟩ := h
  refine ⟨fun m σ' H' => ∃ γ2 S2 ρ2, Hold X.K T γ2 hid S2 H' ∧ EnvR X.K T γ2 (out γ2 S2 hid H') ρ2 σ' ∧ whileD tc B m ρ2 S2 ≠ .stuck ∧ resS X.K T EE γ2 hid S2 H' (whileD tc B m ρ2 S2) Dn, ?_, ?_⟩
  · unfold whileW at h
    split at h
    · rename_i hx
      exact ⟨_, γ, S, ρ, hold, env, Classical.choose_spec hx, h⟩
    · exact h.elim
  · rintro m σ' H' ⟨γ2, S2, ρ2, w1, w2, w3, w4⟩
    cases m with
    | zero => exact absurd rfl w3
    | succ m =>
      refine (show dG X.K T EE repB tc σ' H' _ from ?_)
      refine ⟨γ2, hid, S2, ρ2, w1, w2, ?_⟩
      have w3 : tstM (tc ρ2 S2) ρ2 (fun S1 => stepD (whileD tc B m) (B ρ2 S1)) ≠ .stuck := w3
      have w4 : resS X.K T EE γ2 hid S2 H' (tstM (tc ρ2 S2) ρ2 (fun S1 => stepD (whileD tc B m) (B ρ2 S1))) Dn := w4
      cases e : tc ρ2 S2 with
      | ok b S3 =>
        rw [e] at w3 w4
        intro γ3 H3 b' a1 a2 a3
        have a3' : b = b' := a3
        subst a3'
        have env3 := w2.mono a2.pre (a2.sameH hid)
        cases b with
        | false =>
          rw [if_neg Bool.false_ne_true]
          exact w4 γ3 H3 σ' a1 a2 env3
        | true =>
          rw [if_pos rfl]
          refine ⟨fun σ4 H4 => ∃ γ2 S2 ρ2, Hold X.K T γ2 hid S2 H4 ∧ EnvR X.K T γ2 (out γ2 S2 hid H4) ρ2 σ4 ∧ whileD tc B m ρ2 S2 ≠ .stuck ∧ resS X.K T EE γ2 hid S2 H4 (whileD tc B m ρ2 S2) Dn, fun σ4 H4 hN => ⟨m, Nat.lt_succ_self _, hN⟩, γ3, hid, S3, ρ2, a1, env3, ?_⟩
          have w3 : stepD (whileD tc B m) (B ρ2 S3) ≠ .stuck := w3
          have w4 : resS X.K T EE γ2 hid S2 H' (stepD (whileD tc B m) (B ρ2 S3)) Dn := w4
          have w4' := w4.base a2
          cases eb : B ρ2 S3 with
          | nx ρ5 S5 =>
            rw [eb] at w3 w4'
            exact fun γ' H4 σ5 b1 b2 b3 => ⟨γ', S5, ρ5, b1, b3, w3, w4'.base b2⟩
          | ct ρ5 S5 =>
            rw [eb] at w3 w4'
            exact fun γ' H4 σ5 b1 b2 b3 => ⟨γ', S5, ρ5, b1, b3, w3, w4'.base b2⟩
          | bk ρ5 S5 =>
            rw [eb] at w4'
            exact fun γ' H4 σ5 b1 b2 b3 => w4' γ' H4 σ5 b1 b2 b3
          | rt d5 S5 =>
            rw [eb] at w4'
            exact w4'
          | er x5 ρ5 S5 =>
            rw [eb] at w4'
            exact w4'
          | stuck =>
            rw [eb] at w3
            exact absurd rfl w3
      | err x S3 =>
        rw [e] at w4
        exact fun γ3 H3 a1 a2 => w4 γ3 H3 σ' a1 a2 (w2.mono a2.pre (a2.sameH hid))
      | stuck =>
        rw [e] at w3
        exact absurd rfl w3
end
end DL
end
section
set_option maxHeartbeats 2000000
/-! DLcg: a def's promise where no repr is under way (repr of lists asks who is being written). -/
namespace DL
open PySem PySem.Spec L2
open PyProof.Rows hiding St
abbrev NoRepr (A : Around) : Prop := A.guards = some []
structure FnG (P : Program) (w : World) (K : PySem.W.Frag) (mg : Str → Option Value) (base : Heap) (k : Nat) (f : Addr) (fd : FuncData) (ps : List Str) (sp : Sp) : Prop where
  len : ∀ vs H Q E, sp vs H Q E → vs.length = ps.length
  run : ∀ (A : Around) (outer : List Env) (s : Shared) (H : Hp) (args : Args) (us : List Value) (vs : List V) (Q : VK) (E : XK), Room k A → NoRepr A →
    Env0 P w K mg base A outer s H → BindsTo s fd args (ps.zip us) → Vals vs us → sp vs H Q E → codeAny (model P w) A (.call (.ref f) args) (CR CX0 outer P w H s Q E) s
theorem FnG.mono {P : Program} {w : World} {K : PySem.W.Frag} {mg : Str → Option Value} {base : Heap} {j k : Nat} {f : Addr} {fd : FuncData} {ps : List Str} {sp : Sp} (F : FnG P w K mg base j f fd ps sp) (h : j ≤ k) : FnG P w K mg base k f fd ps sp :=
  ⟨F.len, fun A outer s H args us vs Q E hr => F.run A outer s H args us vs Q E (hr.mono h)⟩
theorem FnG.imp {P : Program} {w : World} {K : PySem.W.Frag} {mg : Str → Option Value} {base : Heap} {k : Nat} {f : Addr} {fd : FuncData} {ps : List Str} {sp sp' : Sp} (F : FnG P w K mg base k f fd ps sp) (i : ∀ vs H Q E, sp' vs H Q E → sp vs H Q E) :
    FnG P w K mg base k f fd ps sp' :=
  ⟨fun vs H Q E z => F.len vs H Q E (i _ _ _ _ z), fun A outer s H args us vs Q E a b c d e g => F.run A outer s H args us vs Q E a b c d e (i _ _ _ _ g)⟩
theorem deeper_guards {A : Around} {env : Env} : (A.deeper env).guards = A.guards := rfl
section
variable {P : Program} {w : World} {K : PySem.W.Frag} {mg : Str → Option Value} {base : Heap}
theorem fng_ok {x qual : Str} {params : Arguments} {body : List Stmt} {scope : Scope} {dvs : List V} {kws : List (Str × V)} {f : Addr} {fd : FuncData} {N ps : List Str} {k : Nat} {sp : Sp} (F : FunD K x qual params body scope dvs kws f fd) (S : FnScope N ps scope) (len : ∀ vs H Q E, sp vs H Q E → vs.length = ps.length)
    (hbody : ∀ (cdv : Value) (A : Around) (outer : List Env) (s : Shared) (H : Hp) (vs : List V) (Q : VK) (E : XK), Room k (A.deeper (envOfC qual scope s.heap.objs.size f cdv)) → NoRepr (A.deeper (envOfC qual scope s.heap.objs.size f cdv)) → sp vs H Q E →
      ∃ t, PSs (cxOf CX0 P w K mg base N qual scope f cdv A outer s H E).nox body t ∧ t { nx := fun _ H' => Q .non H', rt := Q } (L2.start N vs) H) : FnG P w K mg base (k + 1) f fd ps sp := by
  obtain ⟨oc, od, dV, kV, doc, pm, an, cdv, ct, osl, rfl, lk, hcd, _, _⟩ := F.ex
  refine ⟨len, fun A outer s H args us vs Q E room nr ev bd rv promise => ?_⟩
  have vl := len _ _ _ _ promise
  have kin : K.In s.heap := ev.mod.kin.keeps fun b o e => (ev.bs b o e).1
  have nl : s.heap.NoLimit := ev.mod.nolimit.keeps fun b o e => (ev.bs b o e).1
  have kinds : ∀ y ∈ ps.zip us, scope.names.lookup y.1 = some .local ∨ (scope.names.lookup y.1 = some .cell ∧ ((cellsFrom (s.heap.objs.size + 1) scope.names []).lookup y.1).isSome = true) := fun ⟨m, v⟩ hm => by
    cases S.par m (List.of_mem_zip hm).1 with
    | inl z => exact .inl z
    | inr z => exact .inr ⟨z, PySem.W.cellsFrom_some _ _ _ (.inl z)⟩
  refine codeAny_call_function room.depth (kin _ _ lk) rfl S.co S.gen rfl (PySem.W.codeRec_of kin hcd) (bd _ _ _ _ ?_)
  refine wpAny_newFunctionEnv_cells S.kind kinds fun env ee s1 ic => ?_
  subst ee
  refine ⟨nl.keeps ic.toInCall.keep, codeAny_func ?_⟩
  obtain ⟨t, ht, reading⟩ := hbody cdv A outer s H vs Q E (room.deeper _) nr promise
  have I0 : Inv (cxOf CX0 P w K mg base N qual scope f cdv A outer s H E) [] (L2.start N vs) H s1 := inv_start S room.hd ev vl rv ic
  refine wpAny_mono (ht.nox.run [] s1 (L2.start N vs) H _ I0 reading) (fun flow s' hs => ?_) fun e s' hs => hs
  cases flow with
  | ret u =>
    obtain ⟨v, σ', H', J, r, z⟩ := hs
    exact ⟨v, H', J.os, J.bare, J.base, J.hok, r, z⟩
  | next =>
    obtain ⟨σ', H', J, z⟩ := hs
    exact ⟨V.non, H', J.os, J.bare, J.base, J.hok, rfl, z⟩
  | brk =>
    obtain ⟨_, _, _, z⟩ := hs
    exact z.elim
  | cont =>
    obtain ⟨_, _, _, z⟩ := hs
    exact z.elim
end
section
variable {X : Cx} {k : Nat} {f C : Addr} {fd : FuncData} {ps : List Str} {sp : Sp} {x m : Str} {p pos apos : Pos} {e o : Expr} {es : List Expr} {ta : TE} {t : TA} {E : XK}
theorem rung {pins : List (Addr × Obj)} {σ : St} {H : Hp} {s : Shared} {Q : VK} {us : List Value} {vs : List V} (F : FnG X.prog X.w X.K X.mg X.base k f fd ps sp) (hr : Room k X.A) (nr : NoRepr X.A) (hb : Binds X.K fd ps [])
    (I : Inv X pins σ H s) (r : Vals vs us) (h : sp vs H Q E) : wpAny (model X.prog X.w) X.A (call (.ref f) us) (EP X pins σ Q) X.xe s := by
  have hl : us.length = ps.length := by rw [← r.length]; exact F.len _ _ _ _ h
  have hb' := hb s us I.kIn (by rw [List.append_nil]; exact hl)
  rw [List.append_nil] at hb'
  refine wpAny_call (codeAny_mono (F.run X.A X.stack s H ⟨us, []⟩ us vs Q E hr nr I.env0 hb' r h) fun res s' z => ?_)
  cases res with
  | error e => exact z.elim
  | ok flow =>
    cases flow with
    | ret u => exact I.after z
    | next => exact False.elim z
    | brk => exact False.elim z
    | cont => exact False.elim z
theorem pg_call (F : FnG X.prog X.w X.K X.mg X.base k f fd ps sp) (hr : Room k X.A) (nr : NoRepr X.A) (hg : Gl X x) (hm : X.mg x = some (.ref f)) (hk : PySem.W.keepIn X.K (.ref f) = true) (hb : Binds X.K fd ps [])
    (ha : PA X (e :: es) t) (hdb : (x == ("__debug__" : Str)) = false := by decide) (he : starEach (e :: es) X.env = (false, eval e X.env) :: starEach es X.env := by rfl) (hpl : (backTo pos (starEach es X.env)).any (·.1) = false := by rfl) :
    PE X (.Call (.Name x p) (e :: es) [] pos) (tCall sp [] E t) := by
  refine ⟨fun pins s σ H Q I h => wpAny_Call_Name_kw (ld_glob I hg hm ?_ hdb)⟩
  refine PySem.W.callWith_K (h₀ := X.base) I.ok.mod.kin hk (thn (ha.run pos pins s σ H _ I h) fun us s1 ⟨vs, H1, I1, r, z⟩ => ⟨I1.kIn, ?_⟩) he hpl
  have z : sp (vs ++ []) H1 Q E := z
  rw [List.append_nil] at z
  exact rung F hr nr hb I1 r z
theorem pg_call0 (F : FnG X.prog X.w X.K X.mg X.base k f fd ps sp) (hr : Room k X.A) (nr : NoRepr X.A) (hg : Gl X x) (hm : X.mg x = some (.ref f)) (hk : PySem.W.keepIn X.K (.ref f) = true) (hb : Binds X.K fd ps [])
    (hdb : (x == ("__debug__" : Str)) = false := by decide) : PE X (.Call (.Name x p) [] [] pos) (tCall sp [] E tNil) := by
  refine ⟨fun pins s σ H Q I h => wpAny_Call_Name_kw (ld_glob I hg hm ?_ hdb)⟩
  exact PySem.W.callWith_K0 I.kIn hk (rung (us := []) F hr nr hb I .nil h)
/-- o.m(e, ..) of an instance of a class of the text -/
theorem pg_meth {pl : Sem Bool} (he : PE X o ta) (c : Cls X.K C) (hm : Meth X.K C m f) (F : FnG X.prog X.w X.K X.mg X.base k f fd ps sp) (hr : Room k X.A) (nr : NoRepr X.A) (hb : Binds X.K fd ps []) (ha : PA X (e :: es) t)
    (hst : starEach (e :: es) X.env = (false, eval e X.env) :: starEach es X.env := by rfl) (hpl : (backTo pos (starEach es X.env)).any (·.1) = false := by rfl)
    (ht : eval (.Call (.Attribute o m apos) (e :: es) [] pos) X.env = (do
      let recv ← eval o X.env
      standAt apos.atName
      let (g, h) ← holding [recv] (getMethod recv m pl)
      callWith pos g h (backTo pos (starEach (e :: es) X.env)) (backToKw pos (keywordEach [] X.env))) := by rfl) :
    PE X (.Call (.Attribute o m apos) (e :: es) [] pos) (tMeth C m sp [] E ta t) := by
  refine ⟨fun pins s σ H Q I h => PySem.W.methodCall_KW (pl := pl) (thn (he.run pins s σ H _ I h) fun u s1 ⟨x, H1, I1, rx, a, dx, fs, ex, ea, l, z⟩ => ?_) ht⟩
  subst ex
  obtain rfl : u = Value.ref a := rx
  refine getmeth_ok I1 ea c hm l (PySem.W.callWith_K (first := [.ref a]) (h₀ := X.base) I.ok.mod.kin hm.kp (thn (ha.run pos pins s1 σ H1 _ I1 z) fun us s2 ⟨vs, H2, I2, r, z2⟩ => ⟨I2.kIn, ?_⟩) hst hpl)
  have z2 : sp (.ref a :: (vs ++ [])) H2 Q E := z2
  rw [List.append_nil] at z2
  exact rung (us := .ref a :: us) (vs := .ref a :: vs) F hr nr hb I2 (.cons rfl r) z2
theorem pg_meth0 {pl : Sem Bool} (he : PE X o ta) (c : Cls X.K C) (hm : Meth X.K C m f) (F : FnG X.prog X.w X.K X.mg X.base k f fd ps sp) (hr : Room k X.A) (nr : NoRepr X.A) (hb : Binds X.K fd ps [])
    (ht : eval (.Call (.Attribute o m apos) [] [] pos) X.env = (do
      let recv ← eval o X.env
      standAt apos.atName
      let (g, h) ← holding [recv] (getMethod recv m pl)
      callWith pos g h (backTo pos (starEach [] X.env)) (backToKw pos (keywordEach [] X.env))) := by rfl) :
    PE X (.Call (.Attribute o m apos) [] [] pos) (tMeth C m sp [] E ta tNil) := by
  refine ⟨fun pins s σ H Q I h => PySem.W.methodCall_KW (pl := pl) (thn (he.run pins s σ H _ I h) fun u s1 ⟨x, H1, I1, rx, a, dx, fs, ex, ea, l, z⟩ => ?_) ht⟩
  subst ex
  obtain rfl : u = Value.ref a := rx
  exact getmeth_ok I1 ea c hm l (PySem.W.callWith_K0 (first := [.ref a]) I1.kIn hm.kp (rung (us := [.ref a]) (vs := [.ref a]) F hr nr hb I1 (.cons rfl .nil) z))
/-- C(..) of a class of the text with an __init__ -/
theorem rung_make {pins : List (Addr × Obj)} {σ : St} {H : Hp} {s : Shared} {Q : VK} {us : List Value} {vs : List V} (M : Mk X.K C f) (F : FnG X.prog X.w X.K X.mg X.base k f fd ps sp) (hr : Room (k + 1) X.A) (nr : NoRepr X.A) (hb : Binds X.K fd ps []) (I : Inv X pins σ H s) (r : Vals vs us)
    (h : ∀ x dx, H x = none → H dx = none → dx ≠ x → sp (.ref x :: vs) (upd (upd H dx (.own x)) x (.ins C dx [])) (fun v H2 => v = .non ∧ Q (.ref x) H2) E) :
    wpAny (model X.prog X.w) X.A (call (.ref C) us) (EP X pins σ Q) X.xe s := by
  have z0 := h (s.heap.objs.size + 1) s.heap.objs.size (I.hok.fresh (Nat.le_succ _)) (I.hok.fresh (Nat.le_refl _)) (Nat.ne_of_lt (Nat.lt_succ_self _))
  have I2 := Inv.made (C := C) I
  have r2 : Vals (V.ref (s.heap.objs.size + 1) :: vs) (Value.ref (s.heap.objs.size + 1) :: us) := .cons rfl r
  have hl : (Value.ref (s.heap.objs.size + 1) :: us).length = ps.length := by
    rw [← r2.length]
    exact F.len _ _ _ _ z0
  have hb' := hb _ (Value.ref (s.heap.objs.size + 1) :: us) I2.kIn (by rw [List.append_nil]; exact hl)
  rw [List.append_nil] at hb'
  refine wpAny_call (make_map (f := f) I.kIn M.makes M.init (beq_iff_eq.mp M.fn) (codeAny_mono (F.run _ X.stack _ _ ⟨Value.ref (s.heap.objs.size + 1) :: us, []⟩ (Value.ref (s.heap.objs.size + 1) :: us) _ _ E (hr.make C us [])
    ?nr (I2.env0.make C us []) hb' r2 z0) fun res s' z => ?_))
  case nr =>
    show (X.A.under (.builtin "type.__call__" ⟨.ref C :: us, []⟩)).guards = some []
    have e : (X.A.under (.builtin "type.__call__" ⟨.ref C :: us, []⟩)).guards = X.A.guards := by
      show pushGuards (Code.guards (.builtin "type.__call__" ⟨.ref C :: us, []⟩)) X.A.guards = X.A.guards
      have g : Code.isGuard (.builtin "type.__call__" ⟨.ref C :: us, []⟩) = false := by
        show guardIds.contains "type.__call__" = false
        decide
      unfold Code.guards
      rw [g]
      rfl
    rw [e]
    exact nr
  cases res with
  | error e => exact z.elim
  | ok flow =>
    cases flow with
    | ret u =>
      obtain ⟨v, H', I3, rv, ev, z3⟩ := I2.after z
      subst ev
      exact ⟨rv, ⟨V.ref (s.heap.objs.size + 1), H', I3, rfl, z3⟩⟩
    | next => exact False.elim z
    | brk => exact False.elim z
    | cont => exact False.elim z
theorem pg_make (M : Mk X.K C f) (F : FnG X.prog X.w X.K X.mg X.base k f fd ps sp) (hr : Room (k + 1) X.A) (nr : NoRepr X.A) (hg : Gl X x) (hm : X.mg x = some (.ref C)) (hb : Binds X.K fd ps [])
    (ha : PA X (e :: es) t) (hdb : (x == ("__debug__" : Str)) = false := by decide) (he : starEach (e :: es) X.env = (false, eval e X.env) :: starEach es X.env := by rfl) (hpl : (backTo pos (starEach es X.env)).any (·.1) = false := by rfl) :
    PE X (.Call (.Name x p) (e :: es) [] pos) (tMake C sp [] E t) := by
  refine ⟨fun pins s σ H Q I h => wpAny_Call_Name_kw (ld_glob I hg hm ?_ hdb)⟩
  refine PySem.W.callWith_K (h₀ := X.base) I.ok.mod.kin M.kp (thn (ha.run pos pins s σ H _ I h) fun us s1 ⟨vs, H1, I1, r, z⟩ => ⟨I1.kIn, ?_⟩) he hpl
  have z : ∀ x dx, H1 x = none → H1 dx = none → dx ≠ x → sp (.ref x :: (vs ++ [])) (upd (upd H1 dx (.own x)) x (.ins C dx [])) (fun v H2 => v = .non ∧ Q (.ref x) H2) E := z
  rw [List.append_nil] at z
  exact rung_make M F hr nr hb I1 r z
end
end DL
end
section
set_option maxHeartbeats 2000000
/-! DLd: comprehensions, what a def promises, calls. -/
namespace DL
open PySem PySem.Spec L2
open PyProof.Rows hiding St

def wipeD (ρ : En) : List Nat → En
  | [] => ρ
  | v :: vs => (wipeD ρ vs).set v none
theorem wipeD_get (ρ : En) : ∀ (vs : List Nat) (j : Nat), (wipeD ρ vs)[j]? = if j ∈ vs then (if j < ρ.length then some none else none) else ρ[j]?
  | [], j => by simp [wipeD]
  | v :: vs, j => by
    have hl : ∀ vs : List Nat, (wipeD ρ vs).length = ρ.length := fun vs => by
      induction vs with
      | nil => rfl
      | cons v vs ih => unfold wipeD; rw [List.length_set, ih]
    unfold wipeD
    rw [List.getElem?_set, wipeD_get ρ vs j, hl]
    by_cases h : v = j
    · subst h
      simp
    · simp [h, Ne.symm h]
theorem wipeD_length (ρ : En) : ∀ vs : List Nat, (wipeD ρ vs).length = ρ.length
  | [] => rfl
  | v :: vs => by unfold wipeD; rw [List.length_set, wipeD_length ρ vs]
theorem EnvR.wipe {K : PySem.W.Frag} {T : Tab} {γ : List Addr} {F : Hp} {ρ : En} {σ : St} (e : EnvR K T γ F ρ σ) (vs : List Nat) : EnvR K T γ F (wipeD ρ vs) (wipe σ vs) := by
  refine ⟨by rw [wipeD_length, wipe_length, e.len], fun i d h => ?_⟩
  rw [wipeD_get] at h
  by_cases hi : i ∈ vs
  · rw [if_pos hi] at h
    split at h <;> cases h
  · rw [if_neg hi] at h
    obtain ⟨v, h1, h2⟩ := e.get i d h
    exact ⟨v, by rw [wipe_get, if_neg hi]; exact h1, h2⟩
/-- nothing is raised in a comprehension -/
def calmM {α : Type} (f : M α) : M α := fun S => match f S with
  | .ok a S' => .ok a S'
  | .err _ _ => .stuck
  | .stuck => .stuck
theorem calm_of {α : Type} {f : M α} {S S' : Cells} {a : α} (e : f S = .ok a S') : calmM f S = .ok a S' := by
  unfold calmM
  rw [e]
def putC {α : Type} (o : Option En) (k : En → M α) : M α := match o with
  | some ρ => k ρ
  | none => fun _ => .stuck
def compD (p : Pat) (ft : En → M Bool) (fe : En → M D) (ρ : En) : List D → M (List D)
  | [] => fun S => .ok [] S
  | d :: ds => putC (p.put d ρ) fun ρ1 => M.bind (calmM (ft ρ1)) fun b => if b = true then M.bind (calmM (fe ρ1)) fun y => M.bind (compD p ft fe ρ ds) fun l S => .ok (y :: l) S else compD p ft fe ρ ds
structure EvTs (X : Cx) (T : Tab) (EE : XX) (ifs : List Expr) (f : En → M Bool) : Prop where
  pts : PTs X ifs (dT X.K T EE f)
theorem _root_.L2.PTs.dimp {X : Cx} {e : List Expr} {t t' : TT} (h : PTs X e t) (i : ∀ σ H Q, t' σ H Q → t σ H Q) : PTs X e t' := ⟨fun pins s σ H Q I q => h.run pins s σ H Q I (i _ _ _ q)⟩
section
variable {X : Cx} {T : Tab} {EE : XX}
def yesM : M Bool := fun S => .ok true S
theorem ets_nil : EvTs X T EE [] (fun _ => yesM) := ⟨pts_nil.dimp fun σ H Q h => by
  obtain ⟨γ, hid, S, ρ, hold, env, h⟩ := h
  exact h γ H true hold (Ext.refl _ _ _) rfl⟩
theorem ets_one {c : Expr} {f : En → M Bool} (h : EvT X T EE c f) : EvTs X T EE [c] f := ⟨pts_one h.pt⟩
/-- an address is taken out -/
def era (H : Hp) (p : Addr) : Hp := fun b => if b = p then none else H b
theorem era_same {H : Hp} {p : Addr} : era H p p = none := by unfold era; rw [if_pos rfl]
theorem era_ne {H : Hp} {p b : Addr} (h : b ≠ p) : era H p b = H b := by unfold era; rw [if_neg h]
theorem era_upd {H : Hp} {p : Addr} {o : HO} (h : H p = some o) : upd (era H p) p o = H := by
  funext b
  by_cases e : b = p
  · subst e
    rw [upd_same, h]
  · rw [upd_ne e, era_ne e]
theorem out_era {γ : List Addr} {S : Cells} {hid : List Addr} {H : Hp} {p : Addr} (b : Addr) : out γ S hid (era H p) b = out γ S (p :: hid) H b := by
  unfold out era
  by_cases e : b = p
  · simp [e]
  · simp [e]
theorem Hold.unhide {K : PySem.W.Frag} {γ hid : List Addr} {S : Cells} {H : Hp} {p : Addr} (h : Hold K T γ (p :: hid) S H) (hp : p ∉ hid) : Hold K T γ hid S (era H p) := by
  refine ⟨h.len, h.nd, fun n a c e1 e2 => ?_, fun a ha => ?_, fun a ha => h.hidG a (List.mem_cons_of_mem _ ha)⟩
  · obtain ⟨o, ho, r⟩ := h.cell n a c e1 e2
    have ne : a ≠ p := fun z => h.hidG p List.mem_cons_self (z ▸ List.mem_of_getElem? e1)
    exact ⟨o, by rw [era_ne ne]; exact ho, r.mono fun b u hb => by rw [out_era]; exact hb⟩
  · have ne : a ≠ p := fun z => hp (z ▸ ha)
    rw [era_ne ne]
    exact h.hidT a (List.mem_cons_of_mem _ ha)
/-- what has been made is put ahead -/
def preR (acc : List D) : DL.R (List D) → DL.R (List D)
  | .ok l S => .ok (acc ++ l) S
  | .err x S => .err x S
  | .stuck => .stuck
theorem preR_nil (r : DL.R (List D)) : preR [] r = r := by cases r <;> rfl
theorem preR_app (a b : List D) (r : DL.R (List D)) : preR a (preR b r) = preR (a ++ b) r := by
  cases r <;> simp [preR]
theorem bind_pre {f : M (List D)} {y : D} {S : Cells} : (M.bind f fun l S => .ok (y :: l) S) S = preR [y] (f S) := by
  unfold M.bind
  cases f S <;> rfl
/-- THE READING of a comprehension -/
theorem lc_ok {K : PySem.W.Frag} {fi : En → M (List D)} {p : Pat} {ft : En → M Bool} {fe : En → M D} {vs : List Nat} {σ : St} {H : Hp} {Q : VK} (hsl : ∀ i ∈ p.slots, i ∈ vs)
    (h : dL K T EE (fun ρ => M.bind (fi ρ) fun items => compD p ft fe (wipeD ρ vs) items) σ H Q) : tLc (dI K T EE fi) (p.tg K) (dT K T XX0 ft) (dE K T XX0 fe) vs σ H Q := by
  refine (show dG K T EE (repI K T) fi σ H _ from ?_)
  obtain ⟨_, _, _, _, h1, h2, h3⟩ := bindD (rep := repI K T) h
  refine ⟨_, _, _, _, h1, h2, h3.imp fun J H1 ⟨items, γ1, hid, S1, ρ1, q1, q3, q4, q5⟩ D nD => ?_⟩
  obtain ⟨z, q4⟩ := q4
  obtain ⟨hh, sm0⟩ := q1.hide nD (.lst [])
  have nDh : D ∉ hid := (q1.fresh nD).2
  have smI : Same (out γ1 S1 [] H1) (out γ1 S1 [D] (upd H1 D (.lst []))) := fun b o hb => by
    obtain ⟨a1, a2, a3⟩ := out_some.mp hb
    have ne := ne_of_none a3 nD
    exact out_some.mpr ⟨by simp [ne], a2, by rw [upd_ne ne]; exact a3⟩
  have envw := (q3.wipe vs)
  refine ⟨fun i m H' => m = items.length - i ∧ i ≤ items.length ∧ ∃ γ2 S2 accd acc, Hold K T γ2 (D :: hid) S2 H' ∧ (∀ (n : Nat) (a : Addr), γ1[n]? = some a → γ2[n]? = some a) ∧ Same (out γ1 S1 [] H1) (out γ2 S2 [D] H') ∧ Same (out γ1 S1 hid H1) (out γ2 S2 (D :: hid) H') ∧
      H' D = some (.lst acc) ∧ acc.length ≤ i ∧ RpL K T γ2 (out γ2 S2 (D :: hid) H') accd acc ∧ compD p ft fe (wipeD ρ1 vs) items S1 = preR accd (compD p ft fe (wipeD ρ1 vs) (items.drop i) S2),
    ⟨items.length, by simp, Nat.zero_le _, γ1, S1, [], [], hh, fun _ _ z => z, smI, sm0, upd_same, Nat.le_refl _, .nil, by rw [preR_nil, List.drop_zero]⟩, ?_⟩
  rintro i m H' ⟨rfl, hi, γ2, S2, accd, acc, w1, w2, w3, w4, w5, w6, w7, w8⟩
  obtain ⟨g1, g2, g3⟩ := q4 γ2 (D :: hid) S2 H' w2 w4 w1
  by_cases hlt : i < items.length
  · refine .inr ⟨g1 i hlt, fun H3 => i + 1 ≤ items.length ∧ ∃ γ2 S2 accd acc, Hold K T γ2 (D :: hid) S2 H3 ∧ (∀ (n : Nat) (a : Addr), γ1[n]? = some a → γ2[n]? = some a) ∧ Same (out γ1 S1 [] H1) (out γ2 S2 [D] H3) ∧ Same (out γ1 S1 hid H1) (out γ2 S2 (D :: hid) H3) ∧
        H3 D = some (.lst acc) ∧ acc.length ≤ i + 1 ∧ RpL K T γ2 (out γ2 S2 (D :: hid) H3) accd acc ∧ compD p ft fe (wipeD ρ1 vs) items S1 = preR accd (compD p ft fe (wipeD ρ1 vs) (items.drop (i + 1)) S2), fun H3 hN => ⟨items.length - (i + 1), by omega, rfl, hN⟩, fun x H3 y => ?_⟩
    obtain ⟨d, e1, k1, k2, k3⟩ := g3 i x H3 hlt y
    have ed : items.drop i = d :: items.drop (i + 1) := by
      rw [List.drop_eq_getElem_cons hlt]
      have := (List.getElem?_eq_some_iff.mp e1).2
      rw [this]
    have key : compD p ft fe (wipeD ρ1 vs) items S1 = preR accd (putC (p.put d (wipeD ρ1 vs)) (fun ρ1' => M.bind (calmM (ft ρ1')) fun b => if b = true then M.bind (calmM (fe ρ1')) fun y => M.bind (compD p ft fe (wipeD ρ1 vs) (items.drop (i + 1))) fun l S => .ok (y :: l) S else compD p ft fe (wipeD ρ1 vs) (items.drop (i + 1))) S2) := by
      rw [w8, ed]
      rfl
    -- the result is wanted, so no step is stuck
    have q5' : resG K T EE (repL K T) γ1 hid S1 H1 ρ1 σ (compD p ft fe (wipeD ρ1 vs) items S1) (fun vs H' => ∀ p, H' p = none → Q (.ref p) (upd H' p (.lst vs))) := q5
    rw [key] at q5'
    cases ep : p.put d (wipeD ρ1 vs) with
    | none =>
      rw [ep] at q5'
      exact q5'.elim
    | some ρ3 =>
      rw [ep] at q5' key
      have q5' : resG K T EE (repL K T) γ1 hid S1 H1 ρ1 σ (preR accd ((M.bind (calmM (ft ρ3)) fun b => if b = true then M.bind (calmM (fe ρ3)) fun y => M.bind (compD p ft fe (wipeD ρ1 vs) (items.drop (i + 1))) fun l S => .ok (y :: l) S else compD p ft fe (wipeD ρ1 vs) (items.drop (i + 1))) S2)) (fun vs H' => ∀ p, H' p = none → Q (.ref p) (upd H' p (.lst vs))) := q5'
      have key : compD p ft fe (wipeD ρ1 vs) items S1 = preR accd ((M.bind (calmM (ft ρ3)) fun b => if b = true then M.bind (calmM (fe ρ3)) fun y => M.bind (compD p ft fe (wipeD ρ1 vs) (items.drop (i + 1))) fun l S => .ok (y :: l) S else compD p ft fe (wipeD ρ1 vs) (items.drop (i + 1))) S2) := key
      have env2 : EnvR K T γ2 (out γ2 S2 (D :: hid) H3) (wipeD ρ1 vs) (wipe σ vs) := (envw.mono w2 w4).mono k2.pre (k2.sameH _)
      refine put_ok (out_sub _ _ _ _) p d x (wipeD ρ1 vs) ρ3 (wipe σ vs) _ env2 k3 ep fun σ4 n1 n2 => ⟨by rw [n2 vs hsl, wipe_wipe], ?_⟩
      refine (show dG K T XX0 repB ft σ4 H3 _ from ?_)
      refine ⟨γ2, D :: hid, S2, ρ3, k1, n1, ?_⟩
      cases et : ft ρ3 S2 with
      | err x5 S5 =>
        rw [bind_of_stuck (by unfold calmM; rw [et])] at q5'
        exact q5'.elim
      | stuck =>
        rw [bind_of_stuck (by unfold calmM; rw [et])] at q5'
        exact q5'.elim
      | ok b S5 =>
        rw [bind_of_ok (calm_of et)] at q5' key
        intro γ5 H5 b' a1 a2 a3
        have a3' : b = b' := a3
        subst a3'
        have w5' : H5 D = some (.lst acc) := a2.hid k1 List.mem_cons_self (k2.hid w1 List.mem_cons_self w5)
        cases b with
        | false =>
          rw [if_neg Bool.false_ne_true] at q5' key
          rw [if_neg Bool.false_ne_true]
          exact ⟨hlt, γ5, S5, accd, acc, a1, fun n a z => a2.pre n a (k2.pre n a (w2 n a z)), (w3.trans (k2.sameH _)).trans (a2.sameH _), (w4.trans (k2.sameH _)).trans (a2.sameH _), w5', by omega, a2.rpl (k2.rpl w7), key⟩
        | true =>
          rw [if_pos rfl] at q5' key
          rw [if_pos rfl]
          refine (show dG K T XX0 (repE K T) fe σ4 H5 _ from ?_)
          refine ⟨γ5, D :: hid, S5, ρ3, a1, n1.mono a2.pre (a2.sameH _), ?_⟩
          cases ee : fe ρ3 S5 with
          | err x6 S6 =>
            rw [bind_of_stuck (by unfold calmM; rw [ee])] at q5'
            exact q5'.elim
          | stuck =>
            rw [bind_of_stuck (by unfold calmM; rw [ee])] at q5'
            exact q5'.elim
          | ok yd S6 =>
            rw [bind_of_ok (calm_of ee)] at q5' key
            intro γ6 H6 y' c1 c2 c3
            have w6' : H6 D = some (.lst acc) := c2.hid a1 List.mem_cons_self w5'
            obtain ⟨r1, r2⟩ := c1.rewrite (p := D) List.mem_cons_self (.lst (acc ++ [y']))
            have r3 : ∀ hd, D ∈ hd → Same (out γ6 S6 hd H6) (out γ6 S6 hd (upd H6 D (.lst (acc ++ [y'])))) := fun hd hD b o hb => by
              obtain ⟨b1, b2, b3⟩ := out_some.mp hb
              exact out_some.mpr ⟨b1, b2, by rw [upd_ne (fun z : b = D => b1 (by rw [z]; exact hD))]; exact b3⟩
            refine ⟨acc, w6', by omega, hlt, γ6, S6, accd ++ [yd], acc ++ [y'], r1, fun n a z => c2.pre n a (a2.pre n a (k2.pre n a (w2 n a z))), (((w3.trans (k2.sameH _)).trans (a2.sameH _)).trans (c2.sameH _)).trans (r3 _ List.mem_cons_self), (((w4.trans (k2.sameH _)).trans (a2.sameH _)).trans (c2.sameH _)).trans (r3 _ List.mem_cons_self), upd_same, by rw [List.length_append]; simp; omega, ?_, ?_⟩
            · exact RpL.mono (fun _ _ z => z) (r3 _ List.mem_cons_self) _ _ ((c2.rpl (a2.rpl (k2.rpl w7))).append (.one c3))
            · rw [key, ← preR_app]
              rw [bind_pre]
  · have e : i = items.length := by omega
    subst e
    refine .inl ⟨g2, ?_⟩
    rw [List.drop_length] at w8
    have q5' : resG K T EE (repL K T) γ1 hid S1 H1 ρ1 σ (compD p ft fe (wipeD ρ1 vs) items S1) (fun vs H' => ∀ p, H' p = none → Q (.ref p) (upd H' p (.lst vs))) := q5
    rw [w8] at q5'
    have q6 := q5' γ2 (era H' D) acc (w1.unhide nDh) ⟨w2, fun b o hb => by rw [out_era]; exact w3 b o hb⟩ ⟨?_, ?_⟩ D era_same
    · rw [era_upd w5] at q6
      exact q6
    · rw [List.append_nil, w7.length]
      omega
    · rw [List.append_nil]
      exact RpL.mono (fun _ _ z => z) (fun b o hb => by rw [out_era]; exact hb) _ _ w7
theorem evL_lc {elt tg iter : Expr} {ifs : List Expr} {scope : Scope} {own : List (Str × Nat)} {pos : Pos} {fi : En → M (List D)} {p : Pat} {ft : En → M Bool} {fe : En → M D} (hc : X.calm = true) (hN : X.N.Nodup) (hi : EvI X T EE tg iter fi) (ok : BlkOk X.N X.env.scope scope own)
    (hg : ∀ (s : Shared) (H : Hp) (C : Addr) (cl : List (Str × Addr)) (fp : List Addr), EvG (X.blk s H scope (compEnvC scope cl C X.env) fp) tg p) (ht : ∀ (s : Shared) (H : Hp) (C : Addr) (cl : List (Str × Addr)) (fp : List Addr), EvTs (X.blk s H scope (compEnvC scope cl C X.env) fp) T XX0 ifs ft)
    (he : ∀ (s : Shared) (H : Hp) (C : Addr) (cl : List (Str × Addr)) (fp : List Addr), EvE (X.blk s H scope (compEnvC scope cl C X.env) fp) T XX0 elt fe) (hsl : ∀ i ∈ p.slots, i ∈ own.map (·.2) := by decide) (hs : ∀ x, foldedSetIterable iter X.env x = pure x := by intro _; rfl) :
    EvL X T EE (.ListComp elt [⟨tg, iter, ifs, 0⟩] scope pos) (fun ρ => M.bind (fi ρ) fun items => compD p ft fe (wipeD ρ (own.map (·.2))) items) :=
  ⟨(pe_lc hc hN hi.pi ok (fun s H C cl fp => (hg s H C cl fp).pg) (fun s H C cl fp => (ht s H C cl fp).pts) (fun s H C cl fp => (he s H C cl fp).pe) hs).dimp fun σ H Q h => lc_ok hsl h⟩
/-- from a new list to what is done with it -/
theorem frz_read {K : PySem.W.Frag} {fl : En → M (List D)} {σ : St} {H : Hp} {Q : VK} (h : dE K T EE (fun ρ => M.bind (fl ρ) fun l => kon (.lst l)) σ H Q) : dL K T EE fl σ H Q := by
  refine (show dG K T EE (repL K T) fl σ H _ from ?_)
  obtain ⟨_, _, _, _, h1, h2, h3⟩ := bindD (rep := repL K T) h
  refine ⟨_, _, _, _, h1, h2, h3.imp fun vs H1 ⟨l, γ1, hid, S1, ρ, q1, q3, q4, q5⟩ p np => ?_⟩
  obtain ⟨a1, a2, a3⟩ := q1.lay np (.lst vs)
  exact q5 γ1 _ _ a1 a2 (.lst (SqL.of (a3 hid (q1.fresh np).2)) q4.1 (a2.rpl q4.2))
theorem cell_read {K : PySem.W.Frag} {fl : En → M (List D)} {σ : St} {H : Hp} {Q : VK} (h : dE K T EE (fun ρ => M.bind (fl ρ) newC) σ H Q) : dL K T EE fl σ H Q := by
  refine (show dG K T EE (repL K T) fl σ H _ from ?_)
  obtain ⟨_, _, _, _, h1, h2, h3⟩ := bindD (rep := repL K T) h
  refine ⟨_, _, _, _, h1, h2, h3.imp fun vs H1 ⟨l, γ1, hid, S1, ρ, q1, q3, q4, q5⟩ p np => ?_⟩
  unfold newC M.chg at q5
  by_cases fl : flatL l = true
  · simp only [if_pos fl] at q5
    obtain ⟨a1, a2⟩ := q1.newCell np (.lst q4.1 (RpL.toflat _ _ fl q4.2))
    refine q5 _ _ _ a1 a2 (.ref ?_)
    rw [← q1.len, List.getElem?_append_right (Nat.le_refl _), Nat.sub_self]
    rfl
  · simp only [if_neg fl] at q5
    exact q5.elim
theorem set_read {K : PySem.W.Frag} {f : En → M D} {i : Nat} {σ : St} {H : Hp} {Dn : Ends} (h : dS K T EE (bindS f fun d ρ S => .nx (ρ.set i (some d)) S) Dn σ H) : dE K T EE f σ H fun x H1 => Dn.nx (σ.set i (some x)) H1 := by
  refine (show dG K T EE (repE K T) f σ H _ from ?_)
  obtain ⟨_, _, _, _, h1, h2, h3⟩ := bindSD (rep := repE K T) h
  refine ⟨_, _, _, _, h1, h2, h3.imp fun v H1 ⟨d, γ1, hid, S1, ρ, q1, q3, q4, q5⟩ => ?_⟩
  exact q5 γ1 H1 _ q1 (Ext.refl _ _ _) (q3.set i q4)
section
variable {i : Nat} {y : Str} {py : Pos} {elt tg iter : Expr} {ifs : List Expr} {scope : Scope} {own : List (Str × Nat)} {pos spos : Pos} {fi : En → M (List D)} {p : Pat} {ft : En → M Bool} {fe : En → M D}
/-- name = [..] -/
theorem es_setLc (hc : X.calm = true) (hN : X.N.Nodup) (hy : X.N[i]? = some y) (hyl : X.env.scope.names.lookup y = some .local)
    (hsw : swapsWith (.ListComp elt [⟨tg, iter, ifs, 0⟩] scope pos) (some (.Name y py)) spos.line X.env = pure true) (hi : EvI X T EE tg iter fi) (ok : BlkOk X.N X.env.scope scope own)
    (hg : ∀ (s : Shared) (H : Hp) (C : Addr) (cl : List (Str × Addr)) (fp : List Addr), EvG (X.blk s H scope (compEnvC scope cl C X.env) fp) tg p) (ht : ∀ (s : Shared) (H : Hp) (C : Addr) (cl : List (Str × Addr)) (fp : List Addr), EvTs (X.blk s H scope (compEnvC scope cl C X.env) fp) T XX0 ifs ft)
    (he : ∀ (s : Shared) (H : Hp) (C : Addr) (cl : List (Str × Addr)) (fp : List Addr), EvE (X.blk s H scope (compEnvC scope cl C X.env) fp) T XX0 elt fe) (hsl : ∀ i ∈ p.slots, i ∈ own.map (·.2) := by decide) (hs : ∀ x, foldedSetIterable iter X.env x = pure x := by intro _; rfl) :
    EvS X T EE (.Assign [.Name y py] (.ListComp elt [⟨tg, iter, ifs, 0⟩] scope pos) spos) (bindS (fun ρ => M.bind (M.bind (fi ρ) fun items => compD p ft fe (wipeD ρ (own.map (·.2))) items) fun l => kon (.lst l)) fun d ρ S => .nx (ρ.set i (some d)) S) :=
  ⟨(ps_setLc hc hN hy hyl hsw hi.pi ok (fun s H C cl fp => (hg s H C cl fp).pg) (fun s H C cl fp => (ht s H C cl fp).pts) (fun s H C cl fp => (he s H C cl fp).pe) hs).dimp fun Dn σ H h => lc_ok hsl (frz_read (set_read h))⟩
theorem es_setLcC (hc : X.calm = true) (hN : X.N.Nodup) (hy : X.N[i]? = some y) (hyl : X.env.scope.names.lookup y = some .local)
    (hsw : swapsWith (.ListComp elt [⟨tg, iter, ifs, 0⟩] scope pos) (some (.Name y py)) spos.line X.env = pure true) (hi : EvI X T EE tg iter fi) (ok : BlkOk X.N X.env.scope scope own)
    (hg : ∀ (s : Shared) (H : Hp) (C : Addr) (cl : List (Str × Addr)) (fp : List Addr), EvG (X.blk s H scope (compEnvC scope cl C X.env) fp) tg p) (ht : ∀ (s : Shared) (H : Hp) (C : Addr) (cl : List (Str × Addr)) (fp : List Addr), EvTs (X.blk s H scope (compEnvC scope cl C X.env) fp) T XX0 ifs ft)
    (he : ∀ (s : Shared) (H : Hp) (C : Addr) (cl : List (Str × Addr)) (fp : List Addr), EvE (X.blk s H scope (compEnvC scope cl C X.env) fp) T XX0 elt fe) (hsl : ∀ i ∈ p.slots, i ∈ own.map (·.2) := by decide) (hs : ∀ x, foldedSetIterable iter X.env x = pure x := by intro _; rfl) :
    EvS X T EE (.Assign [.Name y py] (.ListComp elt [⟨tg, iter, ifs, 0⟩] scope pos) spos) (bindS (fun ρ => M.bind (M.bind (fi ρ) fun items => compD p ft fe (wipeD ρ (own.map (·.2))) items) newC) fun d ρ S => .nx (ρ.set i (some d)) S) :=
  ⟨(ps_setLc hc hN hy hyl hsw hi.pi ok (fun s H C cl fp => (hg s H C cl fp).pg) (fun s H C cl fp => (ht s H C cl fp).pts) (fun s H C cl fp => (he s H C cl fp).pe) hs).dimp fun Dn σ H h => lc_ok hsl (cell_read (set_read h))⟩
end
end

/-! ### what a def promises -/
mutual
/-- cells from n0 on are read -/
def resv (n0 : Nat) (S : Cells) : D → Option D
  | .ref n => if n < n0 then some (.ref n) else match S[n]? with
    | some ⟨_, .lst l⟩ => some (.lst l)
    | _ => none
  | .lst l => match resvL n0 S l with
    | some l' => some (.lst l')
    | none => none
  | .tup l => match resvL n0 S l with
    | some l' => some (.tup l')
    | none => none
  | .obj c l => match resvL n0 S l with
    | some l' => some (.obj c l')
    | none => none
  | .non => some .non
  | .bl b => some (.bl b)
  | .int i => some (.int i)
  | .str x => some (.str x)
def resvL (n0 : Nat) (S : Cells) : List D → Option (List D)
  | [] => some []
  | d :: ds => match resv n0 S d, resvL n0 S ds with
    | some d', some ds' => some (d' :: ds')
    | _, _ => none
end
mutual
theorem resv_flat (n0 : Nat) (S : Cells) : ∀ d : D, d.flat = true → resv n0 S d = some d
  | .non, _ => rfl
  | .bl _, _ => rfl
  | .int _, _ => rfl
  | .str _, _ => rfl
  | .lst l, h => by
    rw [flat_lst] at h
    unfold resv
    rw [resvL_flat n0 S l h]
  | .tup l, h => by
    rw [flat_tup] at h
    unfold resv
    rw [resvL_flat n0 S l h]
  | .obj c l, h => by
    rw [flat_obj] at h
    unfold resv
    rw [resvL_flat n0 S l h]
  | .ref n, h => by simp at h
theorem resvL_flat (n0 : Nat) (S : Cells) : ∀ l : List D, flatL l = true → resvL n0 S l = some l
  | [], _ => rfl
  | d :: ds, h => by
    rw [flatL_cons, Bool.and_eq_true] at h
    unfold resvL
    rw [resv_flat n0 S d h.1, resvL_flat n0 S ds h.2]
end
mutual
theorem resvL_len (n0 : Nat) (S : Cells) : ∀ (ds es : List D), resvL n0 S ds = some es → es.length = ds.length
  | [], es, h => by
    unfold resvL at h
    cases h
    rfl
  | d :: ds, es, h => by
    unfold resvL at h
    cases h1 : resv n0 S d with
    | none => rw [h1] at h; cases h
    | some d' =>
      cases h2 : resvL n0 S ds with
      | none => rw [h1, h2] at h; cases h
      | some ds' =>
        rw [h1, h2] at h
        cases h
        simp [resvL_len n0 S ds ds' h2]
end
section
variable {K : PySem.W.Frag} {T : Tab} {γ hid : List Addr} {S : Cells} {H : Hp} {n0 : Nat}
mutual
theorem resv_ok (h : Hold K T γ hid S H) : ∀ (d d' : D) (v : V), Rp K T γ (out γ S hid H) d v → resv n0 S d = some d' → Rp K T (γ.take n0) (out (γ.take n0) (S.take n0) hid H) d' v
  | .non, _, _, r, e => by unfold resv at e; cases e; cases r; exact .non
  | .bl _, _, _, r, e => by unfold resv at e; cases e; cases r; exact .bl _
  | .int _, _, _, r, e => by unfold resv at e; cases e; cases r; exact .int _
  | .str _, _, _, r, e => by unfold resv at e; cases e; cases r with | str x z => exact .str _ z
  | .lst l, _, _, r, e => by
    unfold resv at e
    cases q : resvL n0 S l with
    | none => rw [q] at e; cases e
    | some l' =>
      rw [q] at e
      cases e
      cases r with
      | lst a z b => exact .lst (((h.cut n0).2 hid).seq a) (by rw [resvL_len n0 S l l' q]; exact z) (resvL_ok h l l' _ b q)
  | .tup l, _, _, r, e => by
    unfold resv at e
    cases q : resvL n0 S l with
    | none => rw [q] at e; cases e
    | some l' =>
      rw [q] at e
      cases e
      cases r with
      | tup a z b => exact .tup (same_seqT ((h.cut n0).2 hid) a) (by rw [resvL_len n0 S l l' q]; exact z) (resvL_ok h l l' _ b q)
  | .obj c l, _, _, r, e => by
    unfold resv at e
    cases q : resvL n0 S l with
    | none => rw [q] at e; cases e
    | some l' =>
      rw [q] at e
      cases e
      cases r with
      | obj a z b => exact .obj ((h.cut n0).2 hid _ _ a) z (resvL_ok h l l' _ b q)
  | .ref n, d', _, r, e => by
    unfold resv at e
    cases r with
    | ref a =>
      by_cases hn : n < n0
      · rw [if_pos hn] at e
        cases e
        exact .ref (by rw [List.getElem?_take, if_pos hn]; exact a)
      · rw [if_neg hn] at e
        split at e
        · rename_i q
          cases e
          obtain ⟨vs, h1, z, h2⟩ := h.list a q
          refine .lst (SqL.of (out_some.mpr ⟨fun z => h.hidG _ z (List.mem_of_getElem? a), ?_, h1⟩)) z (h2.nil_any ((h.cut n0).2 hid))
          refine live_no fun hm => ?_
          obtain ⟨m, hm⟩ := List.mem_iff_getElem?.mp hm
          obtain ⟨h3, h4⟩ := getElem?_take_some hm
          exact hn ((nd_ix h.nd a h3) ▸ h4)
        · cases e
theorem resvL_ok (h : Hold K T γ hid S H) : ∀ (ds ds' : List D) (vs : List V), RpL K T γ (out γ S hid H) ds vs → resvL n0 S ds = some ds' → RpL K T (γ.take n0) (out (γ.take n0) (S.take n0) hid H) ds' vs
  | [], _, _, r, e => by unfold resvL at e; cases e; cases r; exact .nil
  | d :: ds, es, _, r, e => by
    unfold resvL at e
    cases h1 : resv n0 S d with
    | none => rw [h1] at e; cases e
    | some d' =>
      cases h2 : resvL n0 S ds with
      | none => rw [h1, h2] at e; cases e
      | some ds' =>
        rw [h1, h2] at e
        cases e
        cases r with
        | cons r1 r2 => exact .cons (resv_ok h d d' _ r1 h1) (resvL_ok h ds ds' _ r2 h2)
end
/-- behind a def's body: its own cells are forgotten -/
theorem Ext.cut {γ γ1 hid : List Addr} {S S1 : Cells} {H H1 : Hp} (h0 : Hold K T γ hid S H) (h : Hold K T γ1 hid S1 H1) (e : Ext γ S H γ1 S1 H1) : γ1.take S.length = γ ∧ Ext γ S H (γ1.take S.length) (S1.take S.length) H1 := by
  have hg : γ1.take S.length = γ := by
    apply List.ext_getElem?
    intro n
    rw [List.getElem?_take]
    split
    · rename_i hn
      rw [← h0.len] at hn
      have := e.pre n _ (List.getElem?_eq_getElem hn)
      rw [this, List.getElem?_eq_getElem hn]
    · rename_i hn
      rw [List.getElem?_eq_none_iff.mpr (by rw [h0.len]; omega)]
  refine ⟨hg, ⟨fun n a z => by rw [hg]; exact z, e.same.trans ((h.cut S.length).2 [])⟩⟩
end
def retD (n0 : Nat) (S : Cells) : Option D → DL.R D
  | some d => .ok d (S.take n0)
  | none => .stuck
def exitD (n0 : Nat) : Out → DL.R D
  | .rt d S => retD n0 S (resv n0 S d)
  | .nx _ S => .ok .non (S.take n0)
  | .er x _ S => .err x (S.take n0)
  | _ => .stuck
/-- where a new list is handed back -/
def exitL (n0 : Nat) : Out → DL.R (List D)
  | .rt (.ref n) S => if n0 ≤ n then match S[n]? with
    | some ⟨true, .lst l⟩ => .ok l (S.take n0)
    | _ => .stuck else .stuck
  | .er x _ S => .err x (S.take n0)
  | _ => .stuck
def startD (N : Nat) (ds : List D) : En := ds.map some ++ List.replicate (N - ds.length) none
/-- a def by its body: N names -/
def bodyD (N : Nat) (B : SM) : List D → M D := fun ds S => exitD S.length (B (startD N ds) S)
def bodyL (N : Nat) (B : SM) : List D → M (List D) := fun ds S => exitL S.length (B (startD N ds) S)
theorem start_ok {K : PySem.W.Frag} {T : Tab} {γ : List Addr} {F : Hp} {N : List Str} {ds : List D} {vs : List V} (r : RpL K T γ F ds vs) : EnvR K T γ F (startD N.length ds) (L2.start N vs) := by
  have hl := r.length
  refine ⟨by simp [startD, L2.start, hl], fun i d h => ?_⟩
  unfold startD at h
  by_cases hi : i < ds.length
  · rw [List.getElem?_append_left (by simpa using hi), List.getElem?_map] at h
    cases q : ds[i]? with
    | none => rw [q] at h; cases h
    | some d' =>
      rw [q] at h
      cases h
      obtain ⟨v, h1, h2⟩ := r.get q
      refine ⟨v, ?_, h2⟩
      unfold L2.start
      rw [List.getElem?_append_left (by simp; omega), List.getElem?_map, h1]
      rfl
  · rw [List.getElem?_append_right (by simp; omega), List.getElem?_replicate] at h
    split at h <;> cases h
/-- the promise: no exception leaves -/
def spD (K : PySem.W.Frag) (T : Tab) (n : Nat) (g : List D → M D) : Sp := fun vs H Q _ => ∃ γ hid S ds, Hold K T γ hid S H ∧ RpL K T γ (out γ S hid H) ds vs ∧ ds.length = n ∧ ∃ d S', g ds S = .ok d S' ∧ okV K T γ hid S H d S' Q
def spL (K : PySem.W.Frag) (T : Tab) (n : Nat) (g : List D → M (List D)) : Sp := fun vs H Q _ => ∃ γ hid S ds, Hold K T γ hid S H ∧ RpL K T γ (out γ S hid H) ds vs ∧ ds.length = n ∧ ∃ d S', g ds S = .ok d S' ∧ okL K T γ hid S H d S' Q
section
variable {P : Program} {w : World} {K : PySem.W.Frag} {mg : Str → Option Value} {base : Heap} {T : Tab}
theorem fn_D {x qual : Str} {params : Arguments} {body : List Stmt} {scope : Scope} {dvs : List V} {kws : List (Str × V)} {f : Addr} {fd : FuncData} {N ps : List Str} {k : Nat} {B : SM} (F : FunD K x qual params body scope dvs kws f fd) (S : FnScope N ps scope)
    (hb : ∀ (cdv : Value) (A : Around) (outer : List Env) (s : Shared) (H : Hp) (E : XK), Room k (A.deeper (envOfC qual scope s.heap.objs.size f cdv)) → NoRepr (A.deeper (envOfC qual scope s.heap.objs.size f cdv)) →
      EvSs (cxOf CX0 P w K mg base N qual scope f cdv A outer s H E).nox T XX0 body B) : FnG P w K mg base (k + 1) f fd ps (spD K T ps.length (bodyD N.length B)) := by
  refine fng_ok F S (fun vs H Q E h => ?_) (fun cdv A outer s H vs Q E hr nr h => ?_)
  · obtain ⟨γ, hid, S, ds, h1, h2, h3, _⟩ := h
    rw [← h2.length, h3]
  · obtain ⟨γ, hid, S, ds, h1, h2, h3, d, S', e, q⟩ := h
    refine ⟨_, (hb cdv A outer s H E hr nr).ps, γ, hid, S, startD N.length ds, h1, start_ok h2, ?_⟩
    unfold bodyD at e
    cases eb : B (startD N.length ds) S with
    | nx ρ S1 =>
      rw [eb] at e
      cases e
      intro γ' H' σ' a1 a2 a3
      obtain ⟨c1, c2⟩ := Ext.cut h1 a1 a2
      exact q _ H' .non (a1.cut _).1 c2 .non
    | rt d1 S1 =>
      rw [eb] at e
      have e : retD S.length S1 (resv S.length S1 d1) = .ok d S' := e
      cases er : resv S.length S1 d1 with
      | none => rw [er] at e; cases e
      | some d2 =>
        rw [er] at e
        cases e
        intro γ' H' v a1 a2 a3
        obtain ⟨c1, c2⟩ := Ext.cut h1 a1 a2
        exact q _ H' v (a1.cut _).1 c2 (resv_ok a1 _ _ _ a3 er)
    | bk ρ S1 => rw [eb] at e; cases e
    | ct ρ S1 => rw [eb] at e; cases e
    | er x ρ S1 => rw [eb] at e; cases e
    | stuck => rw [eb] at e; cases e
theorem fn_L {x qual : Str} {params : Arguments} {body : List Stmt} {scope : Scope} {dvs : List V} {kws : List (Str × V)} {f : Addr} {fd : FuncData} {N ps : List Str} {k : Nat} {B : SM} (F : FunD K x qual params body scope dvs kws f fd) (S : FnScope N ps scope)
    (hb : ∀ (cdv : Value) (A : Around) (outer : List Env) (s : Shared) (H : Hp) (E : XK), Room k (A.deeper (envOfC qual scope s.heap.objs.size f cdv)) → NoRepr (A.deeper (envOfC qual scope s.heap.objs.size f cdv)) →
      EvSs (cxOf CX0 P w K mg base N qual scope f cdv A outer s H E).nox T XX0 body B) : FnG P w K mg base (k + 1) f fd ps (spL K T ps.length (bodyL N.length B)) := by
  refine fng_ok F S (fun vs H Q E h => ?_) (fun cdv A outer s H vs Q E hr nr h => ?_)
  · obtain ⟨γ, hid, S, ds, h1, h2, h3, _⟩ := h
    rw [← h2.length, h3]
  · obtain ⟨γ, hid, S, ds, h1, h2, h3, l, S', e, q⟩ := h
    refine ⟨_, (hb cdv A outer s H E hr nr).ps, γ, hid, S, startD N.length ds, h1, start_ok h2, ?_⟩
    unfold bodyL at e
    cases eb : B (startD N.length ds) S with
    | nx ρ S1 => rw [eb] at e; cases e
    | rt d1 S1 =>
      rw [eb] at e
      cases d1 with
      | ref n =>
        have e : (if S.length ≤ n then (match S1[n]? with
          | some ⟨true, .lst l⟩ => .ok l (S1.take S.length)
          | _ => .stuck : DL.R (List D)) else .stuck) = .ok l S' := e
        split at e
        · rename_i hn
          split at e
          · rename_i en
            cases e
            intro γ' H' v a1 a2 a3
            cases a3 with
            | ref ga =>
              rename_i a
              obtain ⟨vs1, g1, z, g2⟩ := a1.list ga en
              obtain ⟨c1, c2⟩ := Ext.cut h1 a1 a2
              have lv : liveAt γ' S1 a = true := liveAt_iff.mpr ⟨n, _, ga, en, rfl⟩
              have na : a ∉ γ'.take S.length := fun hm => by
                obtain ⟨m, hm⟩ := List.mem_iff_getElem?.mp hm
                obtain ⟨h3, h4⟩ := getElem?_take_some hm
                have := nd_ix a1.nd ga h3
                omega
              have smE : ∀ hd, Same (out γ' S1 hd H') (out (γ'.take S.length) (S1.take S.length) hd (era H' a)) := fun hd b o hb => by
                obtain ⟨b1, b2, b3⟩ := out_some.mp hb
                have ne : b ≠ a := fun z => by rw [z, lv] at b2; cases b2
                obtain ⟨b4, b5, b6⟩ := out_some.mp ((a1.cut S.length).2 hd b o hb)
                exact out_some.mpr ⟨b4, b5, by rw [era_ne ne]; exact b6⟩
              have hold : Hold K T (γ'.take S.length) hid (S1.take S.length) (era H' a) := by
                refine ⟨(a1.cut S.length).1.len, (a1.cut S.length).1.nd, fun m b c e1 e2 => ?_, fun b hb => ?_, (a1.cut S.length).1.hidG⟩
                · obtain ⟨o, ho, r⟩ := a1.cell m b c (getElem?_take_some e1).1 (getElem?_take_some e2).1
                  exact ⟨o, by rw [era_ne (fun z : b = a => na (by rw [← z]; exact List.mem_of_getElem? e1))]; exact ho, r.mono (smE hid)⟩
                · rw [era_ne (fun z : b = a => a1.hidG b hb (by rw [z]; exact List.mem_of_getElem? ga))]
                  exact a1.hidT b hb
              have q1 := q (γ'.take S.length) (era H' a) vs1 hold ⟨c2.pre, a2.same.trans (smE [])⟩ z (g2.nil_any (smE hid)) a era_same
              rw [era_upd g1] at q1
              exact q1
          · cases e
        · cases e
      | _ => cases e
    | bk ρ S1 => rw [eb] at e; cases e
    | ct ρ S1 => rw [eb] at e; cases e
    | er x ρ S1 => rw [eb] at e; cases e
    | stuck => rw [eb] at e; cases e
end
/-! ### calls -/
section
variable {X : Cx} {T : Tab} {EE : XX} {k : Nat} {f : Addr} {fd : FuncData} {ps : List Str} {x : Str} {p pos : Pos} {e : Expr} {es : List Expr} {fs : En → M (List D)} {n : Nat}
theorem call_read {K : PySem.W.Frag} {g : List D → M D} {σ : St} {H : Hp} {Q : VK} (hn : ∀ ds S, ds.length ≠ n → g ds S = .stuck) (h : dE K T EE (fun ρ => M.bind (fs ρ) fun ds => calmM (g ds)) σ H Q) : tCall (spD K T n g) [] E0 (dA K T EE fs) σ H Q := by
  refine (show dG K T EE (repA K T) fs σ H _ from ?_)
  obtain ⟨_, _, _, _, h1, h2, h3⟩ := bindD (rep := repA K T) h
  refine ⟨_, _, _, _, h1, h2, h3.imp fun vs H1 ⟨ds, γ1, hid, S1, ρ, q1, q3, q4, q5⟩ => ?_⟩
  rw [List.append_nil]
  cases eg : g ds S1 with
  | ok d S2 =>
    have q5 : resG K T EE (repE K T) γ1 hid S1 H1 ρ σ (calmM (g ds) S1) Q := q5
    rw [calm_of eg] at q5
    refine ⟨γ1, hid, S1, ds, q1, q4, ?_, d, S2, eg, q5⟩
    refine Decidable.byContradiction fun hne => ?_
    rw [hn ds S1 hne] at eg
    cases eg
  | err y S2 =>
    have q5 : resG K T EE (repE K T) γ1 hid S1 H1 ρ σ (calmM (g ds) S1) Q := q5
    unfold calmM at q5
    rw [eg] at q5
    exact q5.elim
  | stuck =>
    have q5 : resG K T EE (repE K T) γ1 hid S1 H1 ρ σ (calmM (g ds) S1) Q := q5
    unfold calmM at q5
    rw [eg] at q5
    exact q5.elim
theorem callL_read {K : PySem.W.Frag} {g : List D → M (List D)} {σ : St} {H : Hp} {Q : VK} (hn : ∀ ds S, ds.length ≠ n → g ds S = .stuck) (h : dL K T EE (fun ρ => M.bind (fs ρ) fun ds => calmM (g ds)) σ H Q) : tCall (spL K T n g) [] E0 (dA K T EE fs) σ H Q := by
  refine (show dG K T EE (repA K T) fs σ H _ from ?_)
  obtain ⟨_, _, _, _, h1, h2, h3⟩ := bindD (rep := repA K T) h
  refine ⟨_, _, _, _, h1, h2, h3.imp fun vs H1 ⟨ds, γ1, hid, S1, ρ, q1, q3, q4, q5⟩ => ?_⟩
  rw [List.append_nil]
  cases eg : g ds S1 with
  | ok d S2 =>
    have q5 : resG K T EE (repL K T) γ1 hid S1 H1 ρ σ (calmM (g ds) S1) (fun vs H' => ∀ p, H' p = none → Q (.ref p) (upd H' p (.lst vs))) := q5
    rw [calm_of eg] at q5
    refine ⟨γ1, hid, S1, ds, q1, q4, ?_, d, S2, eg, fun γ' H' vs a1 a2 z a3 => q5 γ' H' vs a1 a2 ⟨z, a3⟩⟩
    refine Decidable.byContradiction fun hne => ?_
    rw [hn ds S1 hne] at eg
    cases eg
  | err y S2 =>
    have q5 : resG K T EE (repL K T) γ1 hid S1 H1 ρ σ (calmM (g ds) S1) (fun vs H' => ∀ p, H' p = none → Q (.ref p) (upd H' p (.lst vs))) := q5
    unfold calmM at q5
    rw [eg] at q5
    exact q5.elim
  | stuck =>
    have q5 : resG K T EE (repL K T) γ1 hid S1 H1 ρ σ (calmM (g ds) S1) (fun vs H' => ∀ p, H' p = none → Q (.ref p) (upd H' p (.lst vs))) := q5
    unfold calmM at q5
    rw [eg] at q5
    exact q5.elim
/-- with so many arguments -/
def arity {α : Type} (n : Nat) (g : List D → M α) : List D → M α := fun ds S => if ds.length = n then g ds S else .stuck
theorem spD_arity {K : PySem.W.Frag} {g : List D → M D} {vs : List V} {H : Hp} {Q : VK} {E : XK} (h : spD K T n (arity n g) vs H Q E) : spD K T n g vs H Q E := by
  obtain ⟨γ, hid, S, ds, h1, h2, h3, d, S', e, q⟩ := h
  unfold arity at e
  rw [if_pos h3] at e
  exact ⟨γ, hid, S, ds, h1, h2, h3, d, S', e, q⟩
theorem spL_arity {K : PySem.W.Frag} {g : List D → M (List D)} {vs : List V} {H : Hp} {Q : VK} {E : XK} (h : spL K T n (arity n g) vs H Q E) : spL K T n g vs H Q E := by
  obtain ⟨γ, hid, S, ds, h1, h2, h3, d, S', e, q⟩ := h
  unfold arity at e
  rw [if_pos h3] at e
  exact ⟨γ, hid, S, ds, h1, h2, h3, d, S', e, q⟩
/-- f(..), f a def of the text -/
theorem ev_call {g : List D → M D} (F : FnG X.prog X.w X.K X.mg X.base k f fd ps (spD X.K T n g)) (hr : Room k X.A) (nr : NoRepr X.A) (hg : Gl X x) (hm : X.mg x = some (.ref f)) (hk : PySem.W.keepIn X.K (.ref f) = true) (hb : Binds X.K fd ps [])
    (ha : EvA X T EE (e :: es) fs) (hdb : (x == ("__debug__" : Str)) = false := by decide) (he : starEach (e :: es) X.env = (false, eval e X.env) :: starEach es X.env := by rfl) (hpl : (backTo pos (starEach es X.env)).any (·.1) = false := by rfl) :
    EvE X T EE (.Call (.Name x p) (e :: es) [] pos) (fun ρ => M.bind (fs ρ) fun ds => calmM (arity n g ds)) :=
  ⟨(pg_call (E := E0) (F.imp fun vs H Q E h => spD_arity h) hr nr hg hm hk hb ha.pa hdb he hpl).dimp fun σ H Q h => call_read (fun ds S hne => by unfold arity; rw [if_neg hne]) h⟩
theorem evL_call {g : List D → M (List D)} (F : FnG X.prog X.w X.K X.mg X.base k f fd ps (spL X.K T n g)) (hr : Room k X.A) (nr : NoRepr X.A) (hg : Gl X x) (hm : X.mg x = some (.ref f)) (hk : PySem.W.keepIn X.K (.ref f) = true) (hb : Binds X.K fd ps [])
    (ha : EvA X T EE (e :: es) fs) (hdb : (x == ("__debug__" : Str)) = false := by decide) (he : starEach (e :: es) X.env = (false, eval e X.env) :: starEach es X.env := by rfl) (hpl : (backTo pos (starEach es X.env)).any (·.1) = false := by rfl) :
    EvL X T EE (.Call (.Name x p) (e :: es) [] pos) (fun ρ => M.bind (fs ρ) fun ds => calmM (arity n g ds)) :=
  ⟨(pg_call (E := E0) (F.imp fun vs H Q E h => spL_arity h) hr nr hg hm hk hb ha.pa hdb he hpl).dimp fun σ H Q h => callL_read (fun ds S hne => by unfold arity; rw [if_neg hne]) h⟩
end
end DL
end
section
set_option maxHeartbeats 2000000
/-! DLe: operators, subscripts, built-ins and methods over data. -/
namespace DL
open PySem PySem.Spec L2
open PyProof.Rows hiding St

/-! ### looking at data -/
def seqL (S : Cells) : D → Option (List D)
  | .lst l => some l
  | .ref n => match S[n]? with
    | some ⟨_, .lst l⟩ => some l
    | _ => none
  | _ => none
def seqT : D → Option (List D)
  | .tup l => some l
  | _ => none
section
variable {K : PySem.W.Frag} {T : Tab} {γ hid : List Addr} {S : Cells} {H : Hp}
theorem seqL_ok (h : Hold K T γ hid S H) {d : D} {v : V} {l : List D} (r : Rp K T γ (out γ S hid H) d v) (e : seqL S d = some l) : ∃ a vs, v = .ref a ∧ SqL K H a vs ∧ l.length ≤ sizeLine ∧ RpL K T γ (out γ S hid H) l vs := by
  cases r with
  | lst a z b =>
    cases e
    exact ⟨_, _, rfl, (out_sub _ _ _ _).seq a, z, b⟩
  | ref a =>
    rename_i n _
    have e : (match S[n]? with
      | some ⟨_, .lst l⟩ => some l
      | _ => none) = some l := e
    split at e
    · rename_i q
      cases e
      obtain ⟨vs, h1, z, h2⟩ := h.list a q
      exact ⟨_, vs, rfl, SqL.of h1, z, h2.nil_any (Same.refl _)⟩
    · cases e
  | _ => cases e
theorem seqT_ok {d : D} {v : V} {l : List D} (r : Rp K T γ (out γ S hid H) d v) (e : seqT d = some l) : ∃ a vs, v = .ref a ∧ SqT K H a vs ∧ l.length ≤ sizeLine ∧ RpL K T γ (out γ S hid H) l vs := by
  cases r with
  | tup a z b =>
    cases e
    exact ⟨_, _, rfl, same_seqT (out_sub _ _ _ _) a, z, b⟩
  | _ => cases e
theorem okV.same {d : D} {v : V} {Q : VK} (q : okV K T γ hid S H d S Q) (h : Hold K T γ hid S H) (r : Rp K T γ (out γ S hid H) d v) : Q v H := q γ H v h (Ext.refl _ _ _) r
/-- a new tuple, a new list -/
theorem okV.tup {l : List D} {vs : List V} {Q : VK} (q : okV K T γ hid S H (.tup l) S Q) (h : Hold K T γ hid S H) (z : l.length ≤ sizeLine) (r : RpL K T γ (out γ S hid H) l vs) : ∀ p, H p = none → Q (.ref p) (upd H p (.tup vs)) := fun p np => by
  obtain ⟨a1, a2, a3⟩ := h.lay np (.tup vs)
  exact q γ _ _ a1 a2 (.tup (SqT.of (a3 hid (h.fresh np).2)) z (a2.rpl r))
theorem okV.lst {l : List D} {vs : List V} {Q : VK} (q : okV K T γ hid S H (.lst l) S Q) (h : Hold K T γ hid S H) (z : l.length ≤ sizeLine) (r : RpL K T γ (out γ S hid H) l vs) : ∀ p, H p = none → Q (.ref p) (upd H p (.lst vs)) := fun p np => by
  obtain ⟨a1, a2, a3⟩ := h.lay np (.lst vs)
  exact q γ _ _ a1 a2 (.lst (SqL.of (a3 hid (h.fresh np).2)) z (a2.rpl r))
theorem okL.lst {l : List D} {vs : List V} {Q : VK} (q : okL K T γ hid S H l S Q) (h : Hold K T γ hid S H) (z : l.length ≤ sizeLine) (r : RpL K T γ (out γ S hid H) l vs) : ∀ p, H p = none → Q (.ref p) (upd H p (.lst vs)) := fun p np =>
  q γ H vs h (Ext.refl _ _ _) z r p np
end

/-! ### + - * // % ** -/
section
variable {X : Cx} {T : Tab}
/-- list + list, wherever they stand -/
theorem op_catS : OpR X (binaryOp .Add) (fun x y H Q => ∃ l b xs zs, x = .ref l ∧ y = .ref b ∧ SqL X.K H l xs ∧ SqL X.K H b zs ∧ xs.length + zs.length ≤ sizeLine ∧ ∀ p, H p = none → Q (.ref p) (upd H p (.lst (xs ++ zs)))) := by
  intro pins s σ H x y v u Q I rx ry h
  obtain ⟨l, b, xs, zs, rfl, rfl, h1, h2, hz, q⟩ := h
  cases rx
  cases ry
  obtain ⟨i1, r1, ⟨⟨c1, d1, t1, s1⟩, n1, e1, k1, _, m1⟩, _⟩ := I.list h1
  obtain ⟨i2, r2, ⟨⟨c2, d2, t2, s2⟩, n2, e2, k2, _, m2⟩, _⟩ := I.list h2
  simp only at k1 m1 k2 m2
  subst k1 m1 k2 m2
  have hl1 := r1.length
  have hl2 := r2.length
  refine concat_meets ⟨_, e1, rfl⟩ ⟨_, e2, rfl⟩ noFill_list_add seq_list_add PySem.F.slot_list_add PySem.F.entry_list_add (PySem.F.args_list_add_2 _ _) (list_addW l b i1.toArray i2.toArray n1 n2 d1 d2 s1 s2 (by rw [List.size_toArray, List.size_toArray]; omega)) ⟨e1, e2, ?_⟩
  have ea : i1.toArray ++ i2.toArray = (i1 ++ i2).toArray := by simp
  rw [ea]
  exact ⟨.ref _, _, I.lnew (t' := s.toks) (r1.append r2) (by rw [List.length_append]; omega), rfl, q _ I.fresh⟩
def catL (d1 d2 : D) (S : Cells) : Option (List D) := match seqL S d1, seqL S d2 with
  | some a, some b => if a.length + b.length ≤ sizeLine then some (a ++ b) else none
  | _, _ => none
theorem catL_some {d1 d2 : D} {S : Cells} {l : List D} (e : catL d1 d2 S = some l) : ∃ a b, seqL S d1 = some a ∧ seqL S d2 = some b ∧ a.length + b.length ≤ sizeLine ∧ l = a ++ b := by
  unfold catL at e
  split at e
  · rename_i a b h1 h2
    split at e
    · cases e
      exact ⟨a, b, h1, h2, by assumption, rfl⟩
    · cases e
  · cases e
theorem op_catL : OpR X (binaryOp .Add) (rOL X.K T catL) := op_catS.dimp fun x y H Q h => by
  obtain ⟨γ, hid, S, d1, d2, l, hold, r1, r2, e, q⟩ := h
  obtain ⟨a, b, h1, h2, z, rfl⟩ := catL_some e
  obtain ⟨p1, vs1, rfl, s1, z1, g1⟩ := seqL_ok hold r1 h1
  obtain ⟨p2, vs2, rfl, s2, z2, g2⟩ := seqL_ok hold r2 h2
  exact ⟨_, _, _, _, rfl, rfl, s1, s2, by rw [← g1.length, ← g2.length]; exact z, q.lst hold (by rw [List.length_append]; exact z) (g1.append g2)⟩
def dAdd (d1 d2 : D) (S : Cells) : Option D := match d1, d2 with
  | .int i, .int j => some (.int (i + j))
  | .str x, .str y => if x.length + y.length ≤ sizeLine then some (.str (x ++ y)) else none
  | .tup a, .tup b => if a.length + b.length ≤ sizeLine then some (.tup (a ++ b)) else none
  | d1, d2 => (catL d1 d2 S).map .lst
theorem str_len_append (x y : Str) : (x ++ y).length = x.length + y.length := by
  show (x.cps ++ y.cps).size = x.cps.size + y.cps.size
  rw [Array.size_append]
theorem op_dAdd : OpR X (binaryOp .Add) (rO X.K T dAdd) := by
  intro pins s σ H x y v u Q I rx ry h
  obtain ⟨γ, hid, S, d1, d2, d, hold, r1, r2, e, q⟩ := h
  have cat : (catL d1 d2 S).map .lst = some d → wpAny (model X.prog X.w) X.A (binaryOp .Add v u) (EP X pins σ Q) X.xe s := fun e => by
    cases ec : catL d1 d2 S with
    | none => rw [ec] at e; cases e
    | some l =>
      rw [ec] at e
      cases e
      refine op_catS pins s σ H x y v u Q I rx ry ?_
      obtain ⟨a, b, h1, h2, z, rfl⟩ := catL_some ec
      obtain ⟨p1, vs1, rfl, s1, z1, g1⟩ := seqL_ok hold r1 h1
      obtain ⟨p2, vs2, rfl, s2, z2, g2⟩ := seqL_ok hold r2 h2
      exact ⟨_, _, _, _, rfl, rfl, s1, s2, by rw [← g1.length, ← g2.length]; exact z, q.lst hold (by rw [List.length_append]; exact z) (g1.append g2)⟩
  unfold dAdd at e
  split at e
  · cases r1
    cases r2
    cases e
    exact op_add pins s σ H _ _ v u Q I rx ry ⟨_, _, rfl, rfl, q.same hold (.int _)⟩
  · cases r1
    cases r2
    split at e
    · cases e
      rename_i z
      exact op_add_str pins s σ H _ _ v u Q I rx ry ⟨_, _, rfl, rfl, z, q.same hold (.str _ (by rw [str_len_append]; exact z))⟩
    · cases e
  · split at e
    · cases e
      rename_i a b z
      obtain ⟨p1, vs1, rfl, s1, z1, g1⟩ := seqT_ok r1 rfl
      obtain ⟨p2, vs2, rfl, s2, z2, g2⟩ := seqT_ok r2 rfl
      refine op_catA pins s σ H _ _ v u Q I rx ry ⟨_, _, _, _, rfl, rfl, s1, s2, by rw [← g1.length, ← g2.length]; exact z, fun e0 => ?_, fun _ e0 => ?_, fun _ _ => q.tup hold (by rw [List.length_append]; exact z) (g1.append g2)⟩
      · subst e0
        cases g1
        exact q.same hold r2
      · subst e0
        cases g2
        rw [List.append_nil] at q
        exact q.same hold r1
    · cases e
  · exact cat e
def dSub (d1 d2 : D) (_ : Cells) : Option D := match d1, d2 with
  | .int i, .int j => some (.int (i - j))
  | _, _ => none
theorem op_dSub : OpR X (binaryOp .Sub) (rO X.K T dSub) := by
  intro pins s σ H x y v u Q I rx ry h
  obtain ⟨γ, hid, S, d1, d2, d, hold, r1, r2, e, q⟩ := h
  unfold dSub at e
  split at e
  · cases r1
    cases r2
    cases e
    exact op_sub pins s σ H _ _ v u Q I rx ry ⟨_, _, rfl, rfl, q.same hold (.int _)⟩
  · cases e
def okMul (i j : Int) : Bool := decide (i.natAbs.log2 + j.natAbs.log2 < 1000000)
def dMul (d1 d2 : D) (_ : Cells) : Option D := match d1, d2 with
  | .int i, .int j => if okMul i j = true then some (.int (i * j)) else none
  | _, _ => none
theorem op_dMul : OpR X (binaryOp .Mult) (rO X.K T dMul) := by
  intro pins s σ H x y v u Q I rx ry h
  obtain ⟨γ, hid, S, d1, d2, d, hold, r1, r2, e, q⟩ := h
  unfold dMul at e
  split at e
  · rename_i i j
    cases r1
    cases r2
    split at e
    · cases e
      rename_i z
      have z' : i.natAbs.log2 + j.natAbs.log2 < 1000000 := of_decide_eq_true z
      exact op_mulW pins s σ H _ _ v u Q I rx ry ⟨_, _, rfl, rfl, z', q.same hold (.int _)⟩
    · cases e
  · cases e
def dDiv (d1 d2 : D) (_ : Cells) : Option D := match d1, d2 with
  | .int i, .int j => if 0 < j ∧ j.natAbs.log2 < 9000 then some (.int (i / j)) else none
  | _, _ => none
theorem op_dDiv : OpR X (binaryOp .FloorDiv) (rO X.K T dDiv) := by
  intro pins s σ H x y v u Q I rx ry h
  obtain ⟨γ, hid, S, d1, d2, d, hold, r1, r2, e, q⟩ := h
  unfold dDiv at e
  split at e
  · cases r1
    cases r2
    split at e
    · cases e
      rename_i z
      exact op_fdivW pins s σ H _ _ v u Q I rx ry ⟨_, _, rfl, rfl, z, q.same hold (.int _)⟩
    · cases e
  · cases e
def dMod (d1 d2 : D) (_ : Cells) : Option D := match d1, d2 with
  | .int i, .int j => if 0 < j then some (.int (i % j)) else none
  | _, _ => none
theorem op_dMod : OpR X (binaryOp .Mod) (rO X.K T dMod) := by
  intro pins s σ H x y v u Q I rx ry h
  obtain ⟨γ, hid, S, d1, d2, d, hold, r1, r2, e, q⟩ := h
  unfold dMod at e
  split at e
  · cases r1
    cases r2
    split at e
    · cases e
      rename_i z
      exact op_mod pins s σ H _ _ v u Q I rx ry ⟨_, _, rfl, rfl, z, q.same hold (.int _)⟩
    · cases e
  · cases e
def dPow (d1 d2 : D) (_ : Cells) : Option D := match d1, d2 with
  | .int i, .int j => if 0 ≤ j ∧ (Builtin.Int.intBits i : Int) * j ≤ 2 ^ 27 then some (.int (i ^ j.toNat)) else none
  | _, _ => none
theorem op_dPow : OpR X (binaryOp .Pow) (rO X.K T dPow) := by
  intro pins s σ H x y v u Q I rx ry h
  obtain ⟨γ, hid, S, d1, d2, d, hold, r1, r2, e, q⟩ := h
  unfold dPow at e
  split at e
  · cases r1
    cases r2
    split at e
    · cases e
      rename_i z
      obtain ⟨t, rfl⟩ := rx
      obtain ⟨t', rfl⟩ := ry
      exact PyProof.Rows.pow_int z.1 z.2 ⟨.int _, H, I.tok _, ⟨_, rfl⟩, q.same hold (.int _)⟩
    · cases e
  · cases e
def dNeg (d : D) (_ : Cells) : Option D := match d with
  | .int i => some (.int (-i))
  | _ => none
theorem un_dNeg : UnR X (unaryOp .USub) (rU X.K T dNeg) := by
  intro pins s σ H x v Q I rx h
  obtain ⟨γ, hid, S, d1, d, hold, r1, e, q⟩ := h
  unfold dNeg at e
  split at e
  · cases r1
    cases e
    exact un_neg pins s σ H _ v Q I rx ⟨_, rfl, q.same hold (.int _)⟩
  · cases e

/-! ### comparisons -/
mutual
def toPy : D → Option PyData
  | .non => some .none
  | .bl b => some (.bool b)
  | .int i => some (.int i)
  | .str x => some (.str x)
  | .lst l => match toPyL l with
    | some m => some (.list m)
    | none => none
  | .tup l => match toPyL l with
    | some m => some (.tuple m)
    | none => none
  | _ => none
def toPyL : List D → Option (List PyData)
  | [] => some []
  | d :: ds => match toPy d, toPyL ds with
    | some e, some es => some (e :: es)
    | _, _ => none
end
mutual
theorem toPy_ok {K : PySem.W.Frag} {γ : List Addr} {F H : Hp} (hs : Same F H) : ∀ (d : D) (v : V) (p : PyData), Rp K T γ F d v → toPy d = some p → Dp K H v p
  | .non, _, _, r, e => by unfold toPy at e; cases e; cases r; exact .non
  | .bl _, _, _, r, e => by unfold toPy at e; cases e; cases r; exact .bl _
  | .int _, _, _, r, e => by unfold toPy at e; cases e; cases r; exact .int _
  | .str _, _, _, r, e => by unfold toPy at e; cases e; cases r; exact .str _
  | .lst l, _, _, r, e => by
    unfold toPy at e
    cases q : toPyL l with
    | none => rw [q] at e; cases e
    | some m =>
      rw [q] at e
      cases e
      cases r with
      | lst a z b => exact .lst (hs.seq a) (toPyL_ok hs l _ _ b q)
  | .tup l, _, _, r, e => by
    unfold toPy at e
    cases q : toPyL l with
    | none => rw [q] at e; cases e
    | some m =>
      rw [q] at e
      cases e
      cases r with
      | tup a z b => exact .tup (same_seqT hs a) (toPyL_ok hs l _ _ b q)
  | .ref _, _, _, _, e => by unfold toPy at e; cases e
  | .obj _ _, _, _, _, e => by unfold toPy at e; cases e
theorem toPyL_ok {K : PySem.W.Frag} {γ : List Addr} {F H : Hp} (hs : Same F H) : ∀ (ds : List D) (vs : List V) (ps : List PyData), RpL K T γ F ds vs → toPyL ds = some ps → DpAll K H vs ps
  | [], _, _, r, e => by unfold toPyL at e; cases e; cases r; exact .nil
  | d :: ds, _, _, r, e => by
    unfold toPyL at e
    cases h1 : toPy d with
    | none => rw [h1] at e; cases e
    | some p =>
      cases h2 : toPyL ds with
      | none => rw [h1, h2] at e; cases e
      | some ps =>
        rw [h1, h2] at e
        cases e
        cases r with
        | cons a b => exact .cons (toPy_ok hs d _ _ a h1) (toPyL_ok hs ds _ _ b h2)
end
/-- data as a whole, cells read -/
def vw (S : Cells) (d : D) : Option PyData := (resv 0 S d).bind toPy
theorem vw_ok {K : PySem.W.Frag} {γ hid : List Addr} {S : Cells} {H : Hp} {d : D} {v : V} {p : PyData} (h : Hold K T γ hid S H) (r : Rp K T γ (out γ S hid H) d v) (e : vw S d = some p) : Dp K H v p := by
  unfold vw at e
  cases q : resv 0 S d with
  | none => rw [q] at e; cases e
  | some d' =>
    rw [q] at e
    exact toPy_ok (out_sub _ _ _ _) d' v p (resv_ok h d d' v r q) e
def eqP (d1 d2 : D) (S : Cells) : Option Bool := match vw S d1, vw S d2 with
  | some p, some q => if SeqAt.shaped p = true ∧ SeqAt.shaped q = true then some (PyData.eqv p q) else none
  | _, _ => none
theorem eqP_some {d1 d2 : D} {S : Cells} {b : Bool} (e : eqP d1 d2 S = some b) : ∃ p q, vw S d1 = some p ∧ vw S d2 = some q ∧ SeqAt.shaped p = true ∧ SeqAt.shaped q = true ∧ b = PyData.eqv p q := by
  unfold eqP at e
  split at e
  · rename_i p q h1 h2
    split at e
    · rename_i z
      cases e
      exact ⟨p, q, h1, h2, z.1, z.2, rfl⟩
    · cases e
  · cases e
def dEq (d1 d2 : D) (S : Cells) : Option D := match d1, d2 with
  | .str x, .str y => some (.bl (decide (x = y)))
  | d1, d2 => (eqP d1 d2 S).map .bl
def dNe (d1 d2 : D) (S : Cells) : Option D := match d1, d2 with
  | .str x, .str y => some (.bl (!decide (x = y)))
  | d1, d2 => (eqP d1 d2 S).map fun b => .bl (!b)
theorem decS {x y : Str} : decide (V.str x = V.str y) = decide (x = y) := by
  by_cases h : x = y
  · rw [decide_eq_true h, decide_eq_true (by rw [h])]
  · rw [decide_eq_false h, decide_eq_false (fun z => h (V.str.inj z))]
theorem op_dEq (hu : X.A.units + 64 < cLine) : OpR X (compareOp .Eq) (rO X.K T dEq) := by
  intro pins s σ H x y v u Q I rx ry h
  obtain ⟨γ, hid, S, d1, d2, d, hold, r1, r2, e, q⟩ := h
  unfold dEq at e
  split at e
  · cases r1
    cases r2
    cases e
    exact op_eq pins s σ H _ _ v u Q I rx ry ⟨rfl, by rw [decS]; exact q.same hold (.bl _)⟩
  · refine op_eqD hu pins s σ H x y v u Q I rx ry ?_
    cases eb : eqP d1 d2 S with
    | none => rw [eb] at e; cases e
    | some b =>
      rw [eb] at e
      cases e
      obtain ⟨p1, p2, h1, h2, h3, h4, rfl⟩ := eqP_some eb
      exact ⟨p1, p2, vw_ok hold r1 h1, vw_ok hold r2 h2, h3, h4, q.same hold (.bl _)⟩
theorem op_dNe (hu : X.A.units + 64 < cLine) : OpR X (compareOp .NotEq) (rO X.K T dNe) := by
  intro pins s σ H x y v u Q I rx ry h
  obtain ⟨γ, hid, S, d1, d2, d, hold, r1, r2, e, q⟩ := h
  unfold dNe at e
  split at e
  · cases r1
    cases r2
    cases e
    exact op_ne pins s σ H _ _ v u Q I rx ry ⟨rfl, by rw [decS]; exact q.same hold (.bl _)⟩
  · refine op_neD hu pins s σ H x y v u Q I rx ry ?_
    cases eb : eqP d1 d2 S with
    | none => rw [eb] at e; cases e
    | some b =>
      rw [eb] at e
      cases e
      obtain ⟨p1, p2, h1, h2, h3, h4, rfl⟩ := eqP_some eb
      exact ⟨p1, p2, vw_ok hold r1 h1, vw_ok hold r2 h2, h3, h4, q.same hold (.bl _)⟩
def cmpI (p : Int → Int → Bool) (d1 d2 : D) (_ : Cells) : Option D := match d1, d2 with
  | .int i, .int j => some (.bl (p i j))
  | _, _ => none
theorem op_cmpI {o : CmpOp} {p : Int → Int → Bool} (ho : OpR X (compareOp o) (rI0 fun i j => .bl (p i j))) : OpR X (compareOp o) (rO X.K T (cmpI p)) := ho.dimp fun x y H Q h => by
  obtain ⟨γ, hid, S, d1, d2, d, hold, r1, r2, e, q⟩ := h
  unfold cmpI at e
  split at e
  · cases r1
    cases r2
    cases e
    exact ⟨_, _, rfl, rfl, q.same hold (.bl _)⟩
  · cases e
abbrev dLt := cmpI fun i j => decide (i < j)
abbrev dLe := cmpI fun i j => decide (i ≤ j)
abbrev dGt := cmpI fun i j => decide (j < i)
abbrev dGe := cmpI fun i j => decide (j ≤ i)
theorem op_dLt : OpR X (compareOp .Lt) (rO X.K T dLt) := op_cmpI op_lt
theorem op_dLe : OpR X (compareOp .LtE) (rO X.K T dLe) := op_cmpI op_le
theorem op_dGt : OpR X (compareOp .Gt) (rO X.K T dGt) := op_cmpI op_gt
theorem op_dGe : OpR X (compareOp .GtE) (rO X.K T dGe) := op_cmpI op_ge
def isNon : D → Bool
  | .non => true
  | _ => false
def dIs (d1 d2 : D) (_ : Cells) : Option D := match d2 with
  | .non => some (.bl (isNon d1))
  | _ => none
def dIsNot (d1 d2 : D) (_ : Cells) : Option D := match d2 with
  | .non => some (.bl (!isNon d1))
  | _ => none
theorem isNon_rep {K : PySem.W.Frag} {γ : List Addr} {F : Hp} {d : D} {v : V} (r : Rp K T γ F d v) : decide (v = .non) = isNon d := by
  cases r <;> simp [isNon]
theorem op_dIs : OpR X (compareOp .Is) (rO X.K T dIs) := op_isN.dimp fun x y H Q h => by
  obtain ⟨γ, hid, S, d1, d2, d, hold, r1, r2, e, q⟩ := h
  unfold dIs at e
  split at e
  · cases r2
    cases e
    exact ⟨rfl, by rw [isNon_rep r1]; exact q.same hold (.bl _)⟩
  · cases e
theorem op_dIsNot : OpR X (compareOp .IsNot) (rO X.K T dIsNot) := op_notN.dimp fun x y H Q h => by
  obtain ⟨γ, hid, S, d1, d2, d, hold, r1, r2, e, q⟩ := h
  unfold dIsNot at e
  split at e
  · cases r2
    cases e
    exact ⟨rfl, by rw [isNon_rep r1]; exact q.same hold (.bl _)⟩
  · cases e
end

/-! ### subscripts -/
section
variable {X : Cx} {T : Tab} {EE : XX} {a b e : Expr} {fa fb f : En → M D} {pos : Pos}
def ixD (d i : D) (S : Cells) : Option D := match i with
  | .int k => match d with
    | .str x => (atI x.cps.toList k).map fun c => .str ⟨#[c]⟩
    | .tup l => atI l k
    | d => (seqL S d).bind fun l => atI l k
  | _ => none
theorem atI_rep {K : PySem.W.Frag} {γ : List Addr} {F : Hp} {l : List D} {vs : List V} {k : Int} {d : D} (r : RpL K T γ F l vs) (e : atI l k = some d) : ∃ v, atI vs k = some v ∧ Rp K T γ F d v := by
  unfold atI at e ⊢
  rw [← r.length]
  cases q : ixN l.length k with
  | none => rw [q] at e; cases e
  | some j =>
    rw [q] at e
    exact r.get e
theorem ix_dIx : IxR X (rO X.K T ixD) := by
  intro value slice pins s σ H x y v u Q I rx ry h hp
  obtain ⟨γ, hid, S, d1, d2, d, hold, r1, r2, e, q⟩ := h
  unfold ixD at e
  split at e
  · rename_i k
    cases r2
    split at e
    · rename_i z
      cases r1 with
      | str _ hz =>
        cases ea : atI z.cps.toList k with
        | none => rw [ea] at e; cases e
        | some c =>
          rw [ea] at e
          cases e
          exact ix_seq value slice pins s σ H _ _ v u Q I rx ry (.inr (.inr ⟨_, _, c, rfl, rfl, hz, ea, q.same hold (.str _ one_sign)⟩)) hp
    · obtain ⟨p1, vs1, rfl, s1, z1, g1⟩ := seqT_ok r1 rfl
      obtain ⟨v1, e1, r3⟩ := atI_rep g1 e
      exact ix_seq value slice pins s σ H _ _ v u Q I rx ry (.inr (.inl ⟨_, _, _, v1, rfl, rfl, s1, e1, q.same hold r3⟩)) hp
    · cases el : seqL S d1 with
      | none => rw [el] at e; cases e
      | some l =>
        rw [el] at e
        obtain ⟨p1, vs1, rfl, s1, z1, g1⟩ := seqL_ok hold r1 el
        obtain ⟨v1, e1, r3⟩ := atI_rep g1 e
        exact ix_seq value slice pins s σ H _ _ v u Q I rx ry (.inl ⟨_, _, _, v1, rfl, rfl, s1, e1, q.same hold r3⟩) hp
  · cases e
theorem ev_ix (ha : EvE X T EE a fa) (hb : EvE X T EE b fb) (hs : PlainIx b) : EvE X T EE (.Subscript a b pos) (fun ρ => M.bind (fa ρ) fun x => M.bind (fb ρ) fun y => M.opt (ixD x y)) :=
  ⟨(pe_ix ix_dIx ha.pe hb.pe hs).dimp fun σ H Q h => two h⟩
/-! slices -/
def partD : D → Option (Option Int)
  | .int i => some (some i)
  | _ => none
structure EvO (X : Cx) (T : Tab) (EE : XX) (e : Option Expr) (f : En → M (Option Int)) : Prop where
  po : PO X e (dG X.K T EE (fun _ _ a b => a = b) f)
theorem _root_.L2.PO.dimp {X : Cx} {e : Option Expr} {t t' : TO} (h : PO X e t) (i : ∀ σ H Q, t' σ H Q → t σ H Q) : PO X e t' := ⟨fun pins s σ H Q I q => h.run pins s σ H Q I (i _ _ _ q)⟩
theorem eo_none : EvO X T EE none (fun _ S => .ok none S) := ⟨po_none.dimp fun σ H Q h => by
  obtain ⟨γ, hid, S, ρ, hold, env, h⟩ := h
  exact h γ H none hold (Ext.refl _ _ _) rfl⟩
theorem eo_some (h : EvE X T EE e f) : EvO X T EE (some e) (fun ρ => M.bind (f ρ) fun d => M.opt fun _ => partD d) := by
  refine ⟨(po_some h.pe).dimp fun σ H Q h => ?_⟩
  refine (show dG X.K T EE (repE X.K T) f σ H _ from ?_)
  obtain ⟨_, _, _, _, h1, h2, h3⟩ := bindD (rep := repE X.K T) h
  refine ⟨_, _, _, _, h1, h2, h3.imp fun x H1 ⟨d1, γ1, hid, S1, ρ, q1, q3, q4, q5⟩ => ?_⟩
  obtain ⟨o, e, w5⟩ := opt_ok q5
  unfold partD at e
  split at e
  · cases e
    cases q4
    exact ⟨_, rfl, w5 γ1 H1 _ q1 (Ext.refl _ _ _) rfl⟩
  · cases e
def cutD (l : List D) (lo hi : Option Int) : List D := (l.drop (HT.sIx l.length 0 lo)).take (HT.sIx l.length l.length hi - HT.sIx l.length 0 lo)
theorem cutD_rep {K : PySem.W.Frag} {γ : List Addr} {F : Hp} {l : List D} {vs : List V} (r : RpL K T γ F l vs) (lo hi : Option Int) : RpL K T γ F (cutD l lo hi) (cutV vs lo hi) := by
  unfold cutD cutV
  rw [r.length]
  exact (r.drop _).take _
theorem cutD_len (l : List D) (lo hi : Option Int) : (cutD l lo hi).length ≤ l.length := by
  unfold cutD
  rw [List.length_take, List.length_drop]
  omega
def slL (d : D) (lo hi : Option Int) (S : Cells) : Option (List D) := (seqL S d).map fun l => cutD l lo hi
def slD (d : D) (lo hi : Option Int) (S : Cells) : Option D := match d with
  | .tup l => some (.tup (cutD l lo hi))
  | .str x => some (.str (cutS x lo hi))
  | d => (slL d lo hi S).map .lst
theorem cutD_whole {l : List D} {lo hi : Option Int} (h : HT.sIx l.length 0 lo = 0 ∧ HT.sIx l.length l.length hi = l.length) : cutD l lo hi = l := by
  unfold cutD
  rw [h.1, h.2, List.drop_zero, Nat.sub_zero, List.take_length]
theorem cutS_len (x : Str) (lo hi : Option Int) : (cutS x lo hi).length ≤ x.length := by
  unfold cutS
  show (Array.size _) ≤ x.cps.size
  rw [List.size_toArray, List.length_take, List.length_drop, Array.length_toList]
  omega
theorem sl_dSl : SlR X (fun x lo hi H Q => ∃ γ hid S d d', Hold X.K T γ hid S H ∧ Rp X.K T γ (out γ S hid H) d x ∧ slD d lo hi S = some d' ∧ okV X.K T γ hid S H d' S Q) := by
  intro pins s σ H x v vl vu lo hi sl Q I rx hs pl pu h
  obtain ⟨γ, hid, S, d, d', hold, r1, e, q⟩ := h
  unfold slD at e
  split at e
  · cases e
    obtain ⟨p1, vs1, rfl, s1, z1, g1⟩ := seqT_ok r1 rfl
    refine sl_tupA pins s σ H _ v vl vu lo hi sl Q I rx hs pl pu ⟨_, _, rfl, s1, fun w => ?_, fun _ => q.tup hold (Nat.le_trans (cutD_len _ _ _) z1) (cutD_rep g1 lo hi)⟩
    rw [← g1.length] at w
    rw [cutD_whole w] at q
    exact q.same hold r1
  · cases e
    cases r1 with
    | str z hz => exact sl_str pins s σ H _ v vl vu lo hi sl Q I rx hs pl pu ⟨_, rfl, hz, q.same hold (.str _ (Nat.le_trans (cutS_len _ _ _) hz))⟩
  · cases el : slL d lo hi S with
    | none => rw [el] at e; cases e
    | some l =>
      rw [el] at e
      cases e
      unfold slL at el
      cases eq : seqL S d with
      | none => rw [eq] at el; cases el
      | some l0 =>
        rw [eq] at el
        cases el
        obtain ⟨p1, vs1, rfl, s1, z1, g1⟩ := seqL_ok hold r1 eq
        exact sl_list pins s σ H _ v vl vu lo hi sl Q I rx hs pl pu ⟨_, _, rfl, s1, q.lst hold (Nat.le_trans (cutD_len _ _ _) z1) (cutD_rep g1 lo hi)⟩
theorem sl_dSlL : SlR X (fun x lo hi H Q => ∃ γ hid S d d', Hold X.K T γ hid S H ∧ Rp X.K T γ (out γ S hid H) d x ∧ slL d lo hi S = some d' ∧ okL X.K T γ hid S H d' S Q) := by
  intro pins s σ H x v vl vu lo hi sl Q I rx hs pl pu h
  obtain ⟨γ, hid, S, d, d', hold, r1, e, q⟩ := h
  unfold slL at e
  cases eq : seqL S d with
  | none => rw [eq] at e; cases e
  | some l0 =>
    rw [eq] at e
    cases e
    obtain ⟨p1, vs1, rfl, s1, z1, g1⟩ := seqL_ok hold r1 eq
    exact sl_list pins s σ H _ v vl vu lo hi sl Q I rx hs pl pu ⟨_, _, rfl, s1, q.lst hold (Nat.le_trans (cutD_len _ _ _) z1) (cutD_rep g1 lo hi)⟩
variable {lo hi : Option Expr} {fl fh : En → M (Option Int)} {p2 : Pos}
theorem ev_slice (he : EvE X T EE e f) (hl : EvO X T EE lo fl) (hh : EvO X T EE hi fh) : EvE X T EE (.Subscript e (.Slice lo hi none p2) pos) (fun ρ => M.bind (f ρ) fun d => M.bind (fl ρ) fun i => M.bind (fh ρ) fun j => M.opt (slD d i j)) := by
  refine ⟨(pe_slice (sl_dSl (T := T)) he.pe hl.po hh.po).dimp fun σ H Q h => ?_⟩
  refine (show dG X.K T EE (repE X.K T) f σ H _ from ?_)
  obtain ⟨γ, hid, S, ρ, hold, env, h⟩ := h
  obtain ⟨_, _, _, _, h1, h2, h3⟩ := bindR (rep := repE X.K T) hold env h
  refine ⟨_, _, _, _, h1, h2, h3.imp fun x H1 ⟨d1, γ1, S1, q1, q2, q3, q4, q5⟩ => ?_⟩
  obtain ⟨_, _, _, _, h1, h2, h3⟩ := bindR (rep := fun _ _ a b => a = b) q1 q3 q5
  refine ⟨_, _, _, _, h1, h2, h3.imp fun i H2 ⟨i', γ2, S2, w1, w2, w3, w4, w5⟩ => ?_⟩
  cases w4
  obtain ⟨_, _, _, _, h1, h2, h3⟩ := bindR (rep := fun _ _ a b => a = b) w1 w3 w5
  refine ⟨_, _, _, _, h1, h2, h3.imp fun j H3 ⟨j', γ3, S3, u1, u2, u3, u4, u5⟩ => ?_⟩
  cases u4
  obtain ⟨d', e, w5⟩ := opt_ok u5
  exact ⟨γ3, hid, S3, d1, d', u1, u2.rp (w2.rp q4), e, w5⟩
theorem evL_slice (he : EvE X T EE e f) (hl : EvO X T EE lo fl) (hh : EvO X T EE hi fh) : EvL X T EE (.Subscript e (.Slice lo hi none p2) pos) (fun ρ => M.bind (f ρ) fun d => M.bind (fl ρ) fun i => M.bind (fh ρ) fun j => M.opt (slL d i j)) := by
  refine ⟨(pe_slice (sl_dSlL (T := T)) he.pe hl.po hh.po).dimp fun σ H Q h => ?_⟩
  refine (show dG X.K T EE (repE X.K T) f σ H _ from ?_)
  obtain ⟨γ, hid, S, ρ, hold, env, h⟩ := h
  obtain ⟨_, _, _, _, h1, h2, h3⟩ := bindR (rep := repE X.K T) hold env h
  refine ⟨_, _, _, _, h1, h2, h3.imp fun x H1 ⟨d1, γ1, S1, q1, q2, q3, q4, q5⟩ => ?_⟩
  obtain ⟨_, _, _, _, h1, h2, h3⟩ := bindR (rep := fun _ _ a b => a = b) q1 q3 q5
  refine ⟨_, _, _, _, h1, h2, h3.imp fun i H2 ⟨i', γ2, S2, w1, w2, w3, w4, w5⟩ => ?_⟩
  cases w4
  obtain ⟨_, _, _, _, h1, h2, h3⟩ := bindR (rep := fun _ _ a b => a = b) w1 w3 w5
  refine ⟨_, _, _, _, h1, h2, h3.imp fun j H3 ⟨j', γ3, S3, u1, u2, u3, u4, u5⟩ => ?_⟩
  cases u4
  obtain ⟨d', e, w5⟩ := opt_ok u5
  exact ⟨γ3, hid, S3, d1, d', u1, u2.rp (w2.rp q4), e, fun γ' H' vs a1 a2 a3 a4 => w5 γ' H' vs a1 a2 ⟨a3, a4⟩⟩
/-- xs[::-1] of a list -/
theorem evL_rev {k : Nat} {p1 p3 : Pos} (he : EvE X T EE e f) : EvL X T EE (.Subscript e (.Slice none none (some (.UnaryOp .USub (.Constant (.int 1) k p1) p2)) p3) pos) (fun ρ => M.bind (f ρ) fun d => M.opt fun S => (seqL S d).map List.reverse) := by
  refine ⟨(pe_revL he.pe).dimp fun σ H Q h => ?_⟩
  refine (show dG X.K T EE (repE X.K T) f σ H _ from ?_)
  obtain ⟨_, _, _, _, h1, h2, h3⟩ := bindD (rep := repE X.K T) h
  refine ⟨_, _, _, _, h1, h2, h3.imp fun x H1 ⟨d1, γ1, hid, S1, ρ, q1, q3, q4, q5⟩ => ?_⟩
  obtain ⟨l, e, w5⟩ := opt_ok q5
  cases eq : seqL S1 d1 with
  | none => rw [eq] at e; cases e
  | some l0 =>
    rw [eq] at e
    cases e
    obtain ⟨p1, vs1, rfl, s1, z1, g1⟩ := seqL_ok q1 q4 eq
    exact ⟨_, _, rfl, s1, w5 γ1 H1 _ q1 (Ext.refl _ _ _) ⟨by rw [List.length_reverse]; exact z1, g1.reverse⟩⟩
end
end DL
end
section
set_option maxHeartbeats 4000000
/-! DLf: built-in functions over data. -/
namespace DL
open PySem PySem.Spec L2
open PyProof.Rows hiding St
/-- a call by its data function -/
def rC (K : PySem.W.Frag) (T : Tab) (op : List D → Cells → Option D) : List V → Hp → VK → Prop := fun vs H Q => ∃ γ hid S ds d, Hold K T γ hid S H ∧ RpL K T γ (out γ S hid H) ds vs ∧ op ds S = some d ∧ okV K T γ hid S H d S Q
def rCL (K : PySem.W.Frag) (T : Tab) (op : List D → Cells → Option (List D)) : List V → Hp → VK → Prop := fun vs H Q => ∃ γ hid S ds l, Hold K T γ hid S H ∧ RpL K T γ (out γ S hid H) ds vs ∧ op ds S = some l ∧ okL K T γ hid S H l S Q
section
variable {X : Cx} {T : Tab} {EE : XX} {x : Str} {p pos : Pos} {e : Expr} {es : List Expr} {fs : En → M (List D)} {id tn : String}
theorem cb_read {K : PySem.W.Frag} {op : List D → Cells → Option D} {σ : St} {H : Hp} {Q : VK} (h : dE K T EE (fun ρ => M.bind (fs ρ) fun ds => M.opt (op ds)) σ H Q) : tCB (rC K T op) (dA K T EE fs) σ H Q := by
  refine (show dG K T EE (repA K T) fs σ H _ from ?_)
  obtain ⟨_, _, _, _, h1, h2, h3⟩ := bindD (rep := repA K T) h
  refine ⟨_, _, _, _, h1, h2, h3.imp fun vs H1 ⟨ds, γ1, hid, S1, ρ, q1, q3, q4, q5⟩ => ?_⟩
  obtain ⟨d, e, w5⟩ := opt_ok q5
  exact ⟨γ1, hid, S1, ds, d, q1, q4, e, w5⟩
theorem cbL_read {K : PySem.W.Frag} {op : List D → Cells → Option (List D)} {σ : St} {H : Hp} {Q : VK} (h : dL K T EE (fun ρ => M.bind (fs ρ) fun ds => M.opt (op ds)) σ H Q) : tCB (rCL K T op) (dA K T EE fs) σ H Q := by
  refine (show dG K T EE (repA K T) fs σ H _ from ?_)
  obtain ⟨_, _, _, _, h1, h2, h3⟩ := bindD (rep := repA K T) h
  refine ⟨_, _, _, _, h1, h2, h3.imp fun vs H1 ⟨ds, γ1, hid, S1, ρ, q1, q3, q4, q5⟩ => ?_⟩
  obtain ⟨d, e, w5⟩ := opt_ok q5
  exact ⟨γ1, hid, S1, ds, d, q1, q4, e, fun γ' H' vs a1 a2 z a3 => w5 γ' H' vs a1 a2 ⟨z, a3⟩⟩
theorem ev_cb {op : List D → Cells → Option D} (hc : CallR X (.builtin id) (rC X.K T op)) (hg : Gl X x) (hm : X.mg x = none) (hv : bootBuiltins x = some (.builtin id)) (ha : EvA X T EE (e :: es) fs) (hn : x ≠ "__name__" := by decide) (hdb : (x == ("__debug__" : Str)) = false := by decide)
    (he : starEach (e :: es) X.env = (false, eval e X.env) :: starEach es X.env := by rfl) (hpl : (backTo pos (starEach es X.env)).any (·.1) = false := by rfl) : EvE X T EE (.Call (.Name x p) (e :: es) [] pos) (fun ρ => M.bind (fs ρ) fun ds => M.opt (op ds)) :=
  ⟨(pe_callB hc hg hm hv ha.pa hn hdb he hpl).dimp fun σ H Q h => cb_read h⟩
theorem evL_cb {op : List D → Cells → Option (List D)} (hc : CallR X (.builtin id) (rCL X.K T op)) (hg : Gl X x) (hm : X.mg x = none) (hv : bootBuiltins x = some (.builtin id)) (ha : EvA X T EE (e :: es) fs) (hn : x ≠ "__name__" := by decide) (hdb : (x == ("__debug__" : Str)) = false := by decide)
    (he : starEach (e :: es) X.env = (false, eval e X.env) :: starEach es X.env := by rfl) (hpl : (backTo pos (starEach es X.env)).any (·.1) = false := by rfl) : EvL X T EE (.Call (.Name x p) (e :: es) [] pos) (fun ρ => M.bind (fs ρ) fun ds => M.opt (op ds)) :=
  ⟨(pe_callB hc hg hm hv ha.pa hn hdb he hpl).dimp fun σ H Q h => cbL_read h⟩
theorem ev_ct {op : List D → Cells → Option D} (hc : CallR X (.type tn) (rC X.K T op)) (hg : Gl X x) (hm : X.mg x = none) (hv : bootBuiltins x = some (.type tn)) (ha : EvA X T EE (e :: es) fs) (hn : x ≠ "__name__" := by decide) (hdb : (x == ("__debug__" : Str)) = false := by decide)
    (he : starEach (e :: es) X.env = (false, eval e X.env) :: starEach es X.env := by rfl) (hpl : (backTo pos (starEach es X.env)).any (·.1) = false := by rfl) : EvE X T EE (.Call (.Name x p) (e :: es) [] pos) (fun ρ => M.bind (fs ρ) fun ds => M.opt (op ds)) :=
  ⟨(pe_callTy hc hg hm hv ha.pa hn hdb he hpl).dimp fun σ H Q h => cb_read h⟩
theorem evL_ct {op : List D → Cells → Option (List D)} (hc : CallR X (.type tn) (rCL X.K T op)) (hg : Gl X x) (hm : X.mg x = none) (hv : bootBuiltins x = some (.type tn)) (ha : EvA X T EE (e :: es) fs) (hn : x ≠ "__name__" := by decide) (hdb : (x == ("__debug__" : Str)) = false := by decide)
    (he : starEach (e :: es) X.env = (false, eval e X.env) :: starEach es X.env := by rfl) (hpl : (backTo pos (starEach es X.env)).any (·.1) = false := by rfl) : EvL X T EE (.Call (.Name x p) (e :: es) [] pos) (fun ρ => M.bind (fs ρ) fun ds => M.opt (op ds)) :=
  ⟨(pe_callTy hc hg hm hv ha.pa hn hdb he hpl).dimp fun σ H Q h => cbL_read h⟩
/-! abs, min, max of two, int, str of an int, len, sum, all, any -/
def dAbs (ds : List D) (_ : Cells) : Option D := match ds with
  | [.int i] => some (.int (if i < 0 then -i else i))
  | _ => none
theorem rep1 {K : PySem.W.Frag} {γ : List Addr} {F : Hp} {d : D} {vs : List V} (r : RpL K T γ F [d] vs) : ∃ v, vs = [v] ∧ Rp K T γ F d v := by
  cases r with
  | cons a b =>
    cases b
    exact ⟨_, rfl, a⟩
theorem rep2 {K : PySem.W.Frag} {γ : List Addr} {F : Hp} {d e : D} {vs : List V} (r : RpL K T γ F [d, e] vs) : ∃ v u, vs = [v, u] ∧ Rp K T γ F d v ∧ Rp K T γ F e u := by
  cases r with
  | cons a b =>
    obtain ⟨u, rfl, c⟩ := rep1 b
    exact ⟨_, u, rfl, a, c⟩
theorem cb_abs : CallR X (.builtin "abs") (rC X.K T dAbs) := call_abs.dimp fun vs H Q h => by
  obtain ⟨γ, hid, S, ds, d, hold, r, e, q⟩ := h
  unfold dAbs at e
  split at e
  · cases e
    obtain ⟨v, rfl, r1⟩ := rep1 r
    cases r1
    exact ⟨_, rfl, q.same hold (.int _)⟩
  · cases e
def dMax2 (ds : List D) (_ : Cells) : Option D := match ds with
  | [.int i, .int j] => some (.int (if j > i then j else i))
  | _ => none
def dMin2 (ds : List D) (_ : Cells) : Option D := match ds with
  | [.int i, .int j] => some (.int (if j < i then j else i))
  | _ => none
theorem cb_max2 (hc : X.calm = true) : CallR X (.builtin "max") (rC X.K T dMax2) := (call_max2 hc).dimp fun vs H Q h => by
  obtain ⟨γ, hid, S, ds, d, hold, r, e, q⟩ := h
  unfold dMax2 at e
  split at e
  · cases e
    obtain ⟨v, u, rfl, r1, r2⟩ := rep2 r
    cases r1
    cases r2
    exact ⟨_, _, rfl, q.same hold (.int _)⟩
  · cases e
theorem cb_min2 (hc : X.calm = true) : CallR X (.builtin "min") (rC X.K T dMin2) := (call_min2 hc).dimp fun vs H Q h => by
  obtain ⟨γ, hid, S, ds, d, hold, r, e, q⟩ := h
  unfold dMin2 at e
  split at e
  · cases e
    obtain ⟨v, u, rfl, r1, r2⟩ := rep2 r
    cases r1
    cases r2
    exact ⟨_, _, rfl, q.same hold (.int _)⟩
  · cases e
def dInt (ds : List D) (_ : Cells) : Option D := match ds with
  | [.int i] => some (.int i)
  | [.bl b] => some (.int (if b then 1 else 0))
  | _ => none
theorem ct_int : CallR X (.type "int") (rC X.K T dInt) := call_int1.dimp fun vs H Q h => by
  obtain ⟨γ, hid, S, ds, d, hold, r, e, q⟩ := h
  unfold dInt at e
  split at e
  · cases e
    obtain ⟨v, rfl, r1⟩ := rep1 r
    cases r1
    exact .inl ⟨_, rfl, q.same hold (.int _)⟩
  · cases e
    obtain ⟨v, rfl, r1⟩ := rep1 r
    cases r1
    exact .inr ⟨_, rfl, q.same hold (.int _)⟩
  · cases e
def dLen (ds : List D) (S : Cells) : Option D := match ds with
  | [.str x] => some (.int x.length)
  | [.tup l] => some (.int l.length)
  | [d] => (seqL S d).map fun l => .int l.length
  | _ => none
theorem cb_len : CallR X (.builtin "len") (rC X.K T dLen) := call_len.dimp fun vs H Q h => by
  obtain ⟨γ, hid, S, ds, d, hold, r, e, q⟩ := h
  unfold dLen at e
  split at e
  · cases e
    obtain ⟨v, rfl, r1⟩ := rep1 r
    cases r1 with
    | str x z => exact ⟨_, _, rfl, ⟨z, rfl⟩, q.same hold (.int _)⟩
  · cases e
    obtain ⟨v, rfl, r1⟩ := rep1 r
    cases r1 with
    | tup a z b => exact ⟨_, _, rfl, .inr ⟨_, same_seqT (out_sub _ _ _ _) a, b.length⟩, q.same hold (.int _)⟩
  · rename_i d0 _ _
    obtain ⟨v, rfl, r1⟩ := rep1 r
    cases eq : seqL S d0 with
    | none => rw [eq] at e; cases e
    | some l =>
      rw [eq] at e
      cases e
      obtain ⟨a, ws, rfl, s1, z, g⟩ := seqL_ok hold r1 eq
      exact ⟨_, _, rfl, .inl ⟨_, s1, g.length⟩, q.same hold (.int _)⟩
  · cases e
def listOf (ds : List D) (S : Cells) : Option (List D) := match ds with
  | [d] => seqL S d
  | _ => none
def dSum (ds : List D) (S : Cells) : Option D := ((listOf ds S).bind ints?).map fun ns => .int ns.sum
theorem intsOf_ok {K : PySem.W.Frag} {γ hid : List Addr} {S : Cells} {H : Hp} {ds : List D} {vs : List V} {ns : List Int} (hold : Hold K T γ hid S H) (r : RpL K T γ (out γ S hid H) ds vs) (e : (listOf ds S).bind ints? = some ns) :
    ∃ a, vs = [.ref a] ∧ SqL K H a (ns.map V.int) ∧ ns.length ≤ sizeLine := by
  cases el : listOf ds S with
  | none => rw [el] at e; cases e
  | some l =>
    rw [el] at e
    unfold listOf at el
    split at el
    · obtain ⟨v, rfl, r1⟩ := rep1 r
      obtain ⟨a, ws, rfl, s1, z, g⟩ := seqL_ok hold r1 el
      obtain ⟨h1, h2⟩ := ints?_rep g e
      subst h1
      subst h2
      exact ⟨a, rfl, s1, by rw [List.length_map] at z; exact z⟩
    · cases el
theorem cb_sum (hc : X.calm = true) : CallR X (.builtin "sum") (rC X.K T dSum) := (cr_sum hc).dimp fun vs H Q h => by
  obtain ⟨γ, hid, S, ds, d, hold, r, e, q⟩ := h
  unfold dSum at e
  cases ei : (listOf ds S).bind ints? with
  | none => rw [ei] at e; cases e
  | some ns =>
    rw [ei] at e
    cases e
    obtain ⟨a, rfl, s1, _⟩ := intsOf_ok hold r ei
    exact ⟨a, ns, rfl, s1, q.same hold (.int _)⟩
theorem blsOf_ok {K : PySem.W.Frag} {γ hid : List Addr} {S : Cells} {H : Hp} {ds : List D} {vs : List V} {ns : List Bool} (hold : Hold K T γ hid S H) (r : RpL K T γ (out γ S hid H) ds vs) (e : (listOf ds S).bind bls? = some ns) :
    ∃ a, vs = [.ref a] ∧ SqL K H a (ns.map V.bl) := by
  cases el : listOf ds S with
  | none => rw [el] at e; cases e
  | some l =>
    rw [el] at e
    unfold listOf at el
    split at el
    · obtain ⟨v, rfl, r1⟩ := rep1 r
      obtain ⟨a, ws, rfl, s1, z, g⟩ := seqL_ok hold r1 el
      obtain ⟨h1, h2⟩ := bls?_rep g e
      subst h1
      exact ⟨a, rfl, s1⟩
    · cases el
def dAll (ds : List D) (S : Cells) : Option D := ((listOf ds S).bind bls?).map fun bs => .bl (bs.all _root_.id)
def dAny (ds : List D) (S : Cells) : Option D := ((listOf ds S).bind bls?).map fun bs => .bl (bs.any _root_.id)
theorem cb_all (hc : X.calm = true) : CallR X (.builtin "all") (rC X.K T dAll) := (cr_all hc).dimp fun vs H Q h => by
  obtain ⟨γ, hid, S, ds, d, hold, r, e, q⟩ := h
  unfold dAll at e
  cases ei : (listOf ds S).bind bls? with
  | none => rw [ei] at e; cases e
  | some ns =>
    rw [ei] at e
    cases e
    obtain ⟨a, rfl, s1⟩ := blsOf_ok hold r ei
    exact ⟨a, ns, rfl, s1, q.same hold (.bl _)⟩
theorem cb_any (hc : X.calm = true) : CallR X (.builtin "any") (rC X.K T dAny) := (cr_any hc).dimp fun vs H Q h => by
  obtain ⟨γ, hid, S, ds, d, hold, r, e, q⟩ := h
  unfold dAny at e
  cases ei : (listOf ds S).bind bls? with
  | none => rw [ei] at e; cases e
  | some ns =>
    rw [ei] at e
    cases e
    obtain ⟨a, rfl, s1⟩ := blsOf_ok hold r ei
    exact ⟨a, ns, rfl, s1, q.same hold (.bl _)⟩
/-! list(x), tuple(x) of lists and tuples -/
def dListOf (ds : List D) (S : Cells) : Option (List D) := match ds with
  | [.tup l] => some l
  | [d] => seqL S d
  | _ => none
theorem ct_list : CallR X (.type "list") (rCL X.K T dListOf) := call_list_of.dimp fun vs H Q h => by
  obtain ⟨γ, hid, S, ds, l, hold, r, e, q⟩ := h
  unfold dListOf at e
  split at e
  · cases e
    obtain ⟨v, rfl, r1⟩ := rep1 r
    cases r1 with
    | tup a z b => exact ⟨_, _, rfl, .inr (same_seqT (out_sub _ _ _ _) a), q.lst hold z b⟩
  · obtain ⟨v, rfl, r1⟩ := rep1 r
    obtain ⟨a, ws, rfl, s1, z, g⟩ := seqL_ok hold r1 e
    exact ⟨_, _, rfl, .inl s1, q.lst hold z g⟩
  · cases e
def dTupleOf (ds : List D) (S : Cells) : Option D := match ds with
  | [.tup l] => some (.tup l)
  | [d] => (seqL S d).map .tup
  | _ => none
theorem ct_tuple : CallR X (.type "tuple") (rC X.K T dTupleOf) := call_tuple_of.dimp fun vs H Q h => by
  obtain ⟨γ, hid, S, ds, d, hold, r, e, q⟩ := h
  unfold dTupleOf at e
  split at e
  · cases e
    obtain ⟨v, rfl, r1⟩ := rep1 r
    cases r1 with
    | tup a z b => exact ⟨_, _, rfl, .inr ⟨same_seqT (out_sub _ _ _ _) a, q.same hold (.tup a z b)⟩⟩
  · rename_i d0 _
    obtain ⟨v, rfl, r1⟩ := rep1 r
    cases eq : seqL S d0 with
    | none => rw [eq] at e; cases e
    | some l =>
      rw [eq] at e
      cases e
      obtain ⟨a, ws, rfl, s1, z, g⟩ := seqL_ok hold r1 eq
      exact ⟨_, _, rfl, .inl ⟨s1, q.tup hold z g⟩⟩
  · cases e
/-! min, max of ints in a list or a tuple -/
def minI (x : Int) (xs : List Int) : Int := PySem.W.minOf x xs
def maxI (x : Int) (xs : List Int) : Int := PySem.W.maxOf x xs
def seqA (S : Cells) : D → Option (List D)
  | .tup l => some l
  | d => seqL S d
def dMinL (ds : List D) (S : Cells) : Option D := match ds with
  | [d] => match (seqA S d).bind ints? with
    | some (x :: xs) => some (.int (minI x xs))
    | _ => none
  | _ => none
def dMaxL (ds : List D) (S : Cells) : Option D := match ds with
  | [d] => match (seqA S d).bind ints? with
    | some (x :: xs) => some (.int (maxI x xs))
    | _ => none
  | _ => none
theorem seqA_ok {K : PySem.W.Frag} {γ hid : List Addr} {S : Cells} {H : Hp} (h : Hold K T γ hid S H) {d : D} {v : V} {l : List D} (r : Rp K T γ (out γ S hid H) d v) (e : seqA S d = some l) : ∃ a vs, v = .ref a ∧ (SqL K H a vs ∨ SqT K H a vs) ∧ l.length ≤ sizeLine ∧ RpL K T γ (out γ S hid H) l vs := by
  unfold seqA at e
  split at e
  · cases e
    obtain ⟨a, vs, h1, h2, h3, h4⟩ := seqT_ok r rfl
    exact ⟨a, vs, h1, .inr h2, h3, h4⟩
  · obtain ⟨a, vs, h1, h2, h3, h4⟩ := seqL_ok h r e
    exact ⟨a, vs, h1, .inl h2, h3, h4⟩
theorem cb_minL (hc : X.calm = true) (hu : X.A.units + 64 < cLine) : CallR X (.builtin "min") (rC X.K T dMinL) := by
  intro pins s σ H vs us Q I rv h
  obtain ⟨γ, hid, S, ds, d, hold, r, e, q⟩ := h
  unfold dMinL at e
  split at e
  · rename_i d0
    split at e
    · rename_i x xs ei
      cases e
      obtain ⟨v, rfl, r1⟩ := rep1 r
      cases es : seqA S d0 with
      | none => rw [es] at ei; cases ei
      | some l =>
        rw [es] at ei
        obtain ⟨a, ws, rfl, s1, z, g⟩ := seqA_ok hold r1 es
        obtain ⟨h1, h2⟩ := ints?_rep g ei
        subst h1
        rw [Vals.ref1 rv]
        have fin : ∀ (v : Value) (h' : Heap) (tk : Nat), PySem.W.Holds h' v (PySem.W.minOf x xs) → (∀ b o, s.heap.get? b = some o → h'.get? b = some o) → EP X pins σ Q v { s with heap := h', toks := tk } := fun v h' tk hv hk => by
          obtain ⟨t, rfl⟩ := PySem.W.int_of_holds hv
          exact ⟨.int _, H, I.kept hk, ⟨t, rfl⟩, q.same hold (.int _)⟩
        have room : X.A.units + 1 + PySem.W.Datum.depth Int < cLine := by
          show X.A.units + 1 + 0 < cLine
          omega
        rcases s1 with s1 | s1
        · obtain ⟨its, rw', pl, _⟩ := I.list s1
          exact PySem.W.min_list_datum (x := x) (xs := xs) (I.ok.hd hc) pl.isList (PySem.W.HoldAll.of_ints rw'.ints) room fun i v h' tk _ hv hk => fin v h' tk hv hk
        · obtain ⟨its, rw', pl, _⟩ := I.tuple s1
          exact PySem.W.min_tuple_datum (x := x) (xs := xs) (I.ok.hd hc) pl (PySem.W.HoldAll.of_ints rw'.ints) room fun i v h' tk _ hv hk => fin v h' tk hv hk
    · cases e
  · cases e
theorem cb_maxL (hc : X.calm = true) (hu : X.A.units + 64 < cLine) : CallR X (.builtin "max") (rC X.K T dMaxL) := by
  intro pins s σ H vs us Q I rv h
  obtain ⟨γ, hid, S, ds, d, hold, r, e, q⟩ := h
  unfold dMaxL at e
  split at e
  · rename_i d0
    split at e
    · rename_i x xs ei
      cases e
      obtain ⟨v, rfl, r1⟩ := rep1 r
      cases es : seqA S d0 with
      | none => rw [es] at ei; cases ei
      | some l =>
        rw [es] at ei
        obtain ⟨a, ws, rfl, s1, z, g⟩ := seqA_ok hold r1 es
        obtain ⟨h1, h2⟩ := ints?_rep g ei
        subst h1
        rw [Vals.ref1 rv]
        have fin : ∀ (v : Value) (h' : Heap) (tk : Nat), PySem.W.Holds h' v (PySem.W.maxOf x xs) → (∀ b o, s.heap.get? b = some o → h'.get? b = some o) → EP X pins σ Q v { s with heap := h', toks := tk } := fun v h' tk hv hk => by
          obtain ⟨t, rfl⟩ := PySem.W.int_of_holds hv
          exact ⟨.int _, H, I.kept hk, ⟨t, rfl⟩, q.same hold (.int _)⟩
        have room : X.A.units + 1 + PySem.W.Datum.depth Int < cLine := by
          show X.A.units + 1 + 0 < cLine
          omega
        rcases s1 with s1 | s1
        · obtain ⟨its, rw', pl, _⟩ := I.list s1
          exact PySem.W.max_list_datum (x := x) (xs := xs) (I.ok.hd hc) pl.isList (PySem.W.HoldAll.of_ints rw'.ints) room fun i v h' tk _ hv hk => fin v h' tk hv hk
        · obtain ⟨its, rw', pl, _⟩ := I.tuple s1
          exact PySem.W.max_tuple_datum (x := x) (xs := xs) (I.ok.hd hc) pl (PySem.W.HoldAll.of_ints rw'.ints) room fun i v h' tk _ hv hk => fin v h' tk hv hk
    · cases e
  · cases e
/-! repr -/
def reprD (ds : List D) (S : Cells) : Option D := match ds with
  | [.int i] => if i.natAbs.log2 < 1920 ∧ (toString i : Str).length ≤ sizeLine then some (.str (toString i)) else none
  | [.non] => some (.str "None")
  | [d] => match vw S d with
    | some p => match p with
      | .list _ => if p.showable = true ∧ p.hasDict = false ∧ p.depth ≤ 60 ∧ p.shown.length ≤ sizeLine then some (.str p.shown) else none
      | .tuple _ => if p.showable = true ∧ p.hasDict = false ∧ p.depth ≤ 60 ∧ p.shown.length ≤ sizeLine then some (.str p.shown) else none
      | _ => none
    | none => none
  | _ => none
theorem repr_ref (hu : X.A.units + 64 < cLine) (nr : NoRepr X.A) {pins : List (Addr × Obj)} {s : Shared} {σ : St} {H : Hp} {us : List Value} {Q : VK} {v : V} {p : PyData} (I : Inv X pins σ H s) (rv : Vals [v] us) (dp : Dp X.K H v p) (hp : (∃ l, p = .list l) ∨ ∃ l, p = .tuple l)
    (z : p.showable = true ∧ p.hasDict = false ∧ p.depth ≤ 60 ∧ p.shown.length ≤ sizeLine) (q : Q (.str p.shown) H) : wpAny (model X.prog X.w) X.A (call (.builtin "repr") us) (EP X pins σ Q) X.xe s := by
  obtain ⟨u, rfl, ru⟩ := vals1 rv
  obtain ⟨as, rd⟩ := Dp.reads I p v u dp ru
  have hr : ∃ a, v = .ref a := by
    rcases hp with ⟨l, rfl⟩ | ⟨l, rfl⟩ <;> cases dp <;> exact ⟨_, rfl⟩
  obtain ⟨a, rfl⟩ := hr
  obtain rfl : u = Value.ref a := ru
  obtain ⟨z1, z2, z3, z4⟩ := z
  exact repr_of_reads' rd z1 (fun h => by rw [z2] at h; cases h) nr (by omega) (fun _ _ z => z) (fun h' u tk hk => ⟨.str _, H, I.kept hk, ⟨u, rfl⟩, q⟩) z4
theorem cb_repr (hu : X.A.units + 64 < cLine) (nr : NoRepr X.A) : CallR X (.builtin "repr") (rC X.K T reprD) := by
  intro pins s σ H vs us Q I rv h
  obtain ⟨γ, hid, S, ds, d, hold, r, e, q⟩ := h
  unfold reprD at e
  split at e
  · split at e
    · cases e
      rename_i z
      obtain ⟨v, rfl, r1⟩ := rep1 r
      cases r1
      obtain ⟨u, rfl, ru⟩ := vals1 rv
      obtain ⟨t, rfl⟩ := ru
      exact PySem.P.repr_of_int z.1 ⟨.str _, H, I.tok _, ⟨_, rfl⟩, q.same hold (.str _ z.2)⟩
    · cases e
  · cases e
    obtain ⟨v, rfl, r1⟩ := rep1 r
    cases r1
    obtain ⟨u, rfl, ru⟩ := vals1 rv
    obtain rfl : u = Value.none := ru
    exact PySem.P.repr_of_none ⟨.str _, H, I.tok _, ⟨_, rfl⟩, q.same hold (.str _ (by decide +kernel))⟩
  · rename_i d0 _ _
    obtain ⟨v, rfl, r1⟩ := rep1 r
    split at e
    · rename_i p ev
      have dp := vw_ok hold r1 ev
      split at e
      · split at e
        · cases e
          rename_i z
          exact repr_ref hu nr I rv dp (.inl ⟨_, rfl⟩) z (q.same hold (.str _ z.2.2.2))
        · cases e
      · split at e
        · cases e
          rename_i z
          exact repr_ref hu nr I rv dp (.inr ⟨_, rfl⟩) z (q.same hold (.str _ z.2.2.2))
        · cases e
      · cases e
    · cases e
  · cases e
/-! isinstance with a built-in class -/
/-- the name of a value's class -/
def tyName : D → Option String
  | .non => some "NoneType"
  | .bl _ => some "bool"
  | .int _ => some "int"
  | .str _ => some "str"
  | .lst _ => some "list"
  | .ref _ => some "list"
  | .tup _ => some "tuple"
  | .obj _ _ => none
theorem tyX_of {K : PySem.W.Frag} {γ hid : List Addr} {S : Cells} {H : Hp} (h : Hold K T γ hid S H) {d : D} {v : V} {n : String} (r : Rp K T γ (out γ S hid H) d v) (e : tyName d = some n) (hl : ∀ k, d = .ref k → (seqL S d).isSome = true) : TyX K H v (.type n) := by
  cases r with
  | non => cases e; exact .base .non
  | bl b => cases e; exact .base (.bl b)
  | int i => cases e; exact .base (.int i)
  | str x z => cases e; exact .base (.str x)
  | lst a z b =>
    cases e
    rcases (out_sub _ _ _ _).seq a with (a | ⟨o, a⟩) | ⟨o, its, m, h1, h2, _⟩
    · exact .base (.lst a)
    · exact .base (.frz a)
    · exact .kList h1 h2
  | tup a z b =>
    cases e
    rcases same_seqT (out_sub _ _ _ _) a with (a | ⟨o, a⟩) | ⟨o, its, m, h1, h2, _⟩
    · exact .base (.tup a)
    · exact .fTuple a
    · exact .kTuple h1 h2
  | ref a =>
    rename_i k _
    cases e
    cases q : seqL S (.ref k) with
    | none =>
      have z := hl k rfl
      rw [q] at z
      cases z
    | some l =>
      obtain ⟨p, vs, e1, s1, _, _⟩ := seqL_ok h (Rp.ref (K := K) (T := T) (F := out γ S hid H) a) q
      cases e1
      rcases s1 with (s1 | ⟨o, s1⟩) | ⟨o, its, m, h1, h2, _⟩
      · exact .base (.lst s1)
      · exact .base (.frz s1)
      · exact .kList h1 h2
  | obj a b c => cases e
def isiD (tab : String → Bool) (d : D) (S : Cells) : Option D := match tyName d with
  | some n => match d with
    | .ref _ => if (seqL S d).isSome = true then some (.bl (tab n)) else none
    | _ => some (.bl (tab n))
  | none => none
def tyNames : List String := ["NoneType", "bool", "int", "str", "list", "tuple"]
theorem tyName_mem {d : D} {n : String} (e : tyName d = some n) : n ∈ tyNames := by
  cases d <;> cases e <;> decide
theorem ev_isi {f : En → M D} {x2 : Str} {p2 : Pos} (tab : String → Bool) (hk : ∀ a ∈ tyNames, kitB a tn = some (tab a)) (hg : Gl X "isinstance") (hm : X.mg "isinstance" = none) (hv : bootBuiltins "isinstance" = some (.builtin "isinstance")) (he : EvE X T EE e f) (hg2 : Gl X x2) (hm2 : X.mg x2 = none) (hv2 : bootBuiltins x2 = some (.type tn))
    (hn2 : x2 ≠ "__name__" := by decide) (hd2 : (x2 == ("__debug__" : Str)) = false := by decide)
    (hs : starEach [e, .Name x2 p2] X.env = (false, eval e X.env) :: starEach [.Name x2 p2] X.env := by rfl) (hpl : (backTo pos (starEach [.Name x2 p2] X.env)).any (·.1) = false := by rfl) (hs3 : starEach [.Name x2 p2] X.env = (false, eval (.Name x2 p2) X.env) :: starEach [] X.env := by rfl) :
    EvE X T EE (.Call (.Name "isinstance" p) [e, .Name x2 p2] [] pos) (fun ρ => M.bind (f ρ) fun d => M.opt (isiD tab d)) := by
  have ha : PA X [e, .Name x2 p2] (tCons (dE X.K T EE f) (tCons (tC (.ty tn)) tNil)) := pa_cons he.pe (pa_cons (pe_bltn hg2 hm2 hv2 rfl hn2 hd2) pa_nil hs3) hs
  refine ⟨(pe_callB call_isi hg hm hv ha (by decide) (by decide) hs hpl).dimp fun σ H Q h => ?_⟩
  refine (show dG X.K T EE (repE X.K T) f σ H _ from ?_)
  obtain ⟨_, _, _, _, h1, h2, h3⟩ := bindD (rep := repE X.K T) h
  refine ⟨_, _, _, _, h1, h2, h3.imp fun v H1 ⟨d, γ1, hid, S1, ρ, q1, q3, q4, q5⟩ => ?_⟩
  obtain ⟨r, er, w5⟩ := opt_ok q5
  unfold isiD at er
  split at er
  · rename_i n en
    have fin : d ≠ d ∨ (∀ k, d = .ref k → (seqL S1 d).isSome = true) → some (D.bl (tab n)) = some r → rIsi X.K [v, .ty tn] H1 Q := fun hl er => by
      cases er
      have hl := hl.resolve_left (fun z => z rfl)
      exact ⟨v, .ty tn, .type n, .type tn, tab n, rfl, .ty tn, tyX_of q1 q4 en hl, kit_ty (hk n (tyName_mem en)), w5 γ1 H1 _ q1 (Ext.refl _ _ _) (.bl _)⟩
    split at er
    · split at er
      · rename_i hz
        exact fin (.inr fun k _ => hz) er
      · cases er
    · rename_i hne
      exact fin (.inr fun k ek => absurd ek (hne k)) er
  · cases er
end
end DL
end
section
set_option maxHeartbeats 4000000
/-! DLg: sorted, sets of ints, ranges as lists, slices with a step, methods of lists, stores. -/
namespace DL
open PySem PySem.Spec L2
open PyProof.Rows hiding St

/-! ### sorted -/
def leB (a b : Int) : Bool := decide (a ≤ b)
def leP (p q : Int × Int) : Bool := !SrtO.lexB q p
def sortI (ns : List Int) : List Int := ns.mergeSort leB
def sortP (ps : List (Int × Int)) : List (Int × Int) := ps.mergeSort leP
theorem sortI_uniq {ns ms : List Int} (h : ms.Perm ns) (s : ms.Pairwise (· ≤ ·)) : ms = sortI ns := by
  refine List.Perm.eq_of_pairwise (le := fun a b : Int => a ≤ b) (fun a b _ _ h1 h2 => by omega) s ?_ (h.trans (List.mergeSort_perm ns leB).symm)
  have := List.pairwise_mergeSort (le := leB) (fun a b c h1 h2 => by
    have a1 : a ≤ b := of_decide_eq_true h1
    have a2 : b ≤ c := of_decide_eq_true h2
    exact decide_eq_true (by omega)) (fun a b => by
    unfold leB
    rcases Int.le_total a b with h | h <;> simp [h]) ns
  exact this.imp fun {a b} h => of_decide_eq_true h
theorem sortP_uniq {ns ms : List (Int × Int)} (h : ms.Perm ns) (s : ms.Pairwise (fun x y => SrtO.lexB y x = false)) : ms = sortP ns := by
  refine List.Perm.eq_of_pairwise (le := fun x y : Int × Int => SrtO.lexB y x = false) (fun a b _ _ h1 h2 => ?_) s ?_ (h.trans (List.mergeSort_perm ns leP).symm)
  · have a1 := SrtO.lexB_no.mp h1
    have a2 := SrtO.lexB_no.mp h2
    exact Prod.ext (by omega) (by omega)
  · have := List.pairwise_mergeSort (le := leP) (fun a b c h1 h2 => by
      unfold leP at *
      simp only [Bool.not_eq_true'] at *
      have a1 := SrtO.lexB_no.mp h1
      have a2 := SrtO.lexB_no.mp h2
      exact SrtO.lexB_no.mpr (by omega)) (fun a b => by
      unfold leP
      cases e1 : SrtO.lexB b a with
      | false => simp
      | true =>
        have q := SrtO.lexB_iff.mp e1
        have : SrtO.lexB a b = false := SrtO.lexB_no.mpr (by omega)
        simp [this]) ns
    exact this.imp fun {a b} h => by
      unfold leP at h
      simpa using h
def encP (p : Int × Int) : D := .tup [.int p.1, .int p.2]
def pair? : D → Option (Int × Int)
  | .tup [.int a, .int b] => some (a, b)
  | _ => none
theorem pair?_enc {d : D} {p : Int × Int} (e : pair? d = some p) : d = encP p := by
  unfold pair? at e
  split at e
  · cases e
    rfl
  · cases e
def pairs? : List D → Option (List (Int × Int))
  | [] => some []
  | d :: ds => match pair? d, pairs? ds with
    | some p, some ps => some (p :: ps)
    | _, _ => none
theorem pairs?_enc : ∀ {ds : List D} {ps : List (Int × Int)}, pairs? ds = some ps → ds = ps.map encP
  | [], ps, e => by cases e; rfl
  | d :: ds, ps, e => by
    unfold pairs? at e
    cases h1 : pair? d with
    | none => rw [h1] at e; cases e
    | some p =>
      cases h2 : pairs? ds with
      | none => rw [h1, h2] at e; cases e
      | some qs =>
        rw [h1, h2] at e
        cases e
        rw [List.map_cons, ← pair?_enc h1, ← pairs?_enc h2]
theorem pairs?_map (ps : List (Int × Int)) : pairs? (ps.map encP) = some ps := by
  induction ps with
  | nil => rfl
  | cons p ps ih =>
    rw [List.map_cons]
    unfold pairs?
    rw [ih]
    rfl
def sortD (ds : List D) (S : Cells) : Option (List D) := match listOf ds S with
  | some l => match ints? l with
    | some ns => some ((sortI ns).map .int)
    | none => match pairs? l with
      | some ps => some ((sortP ps).map encP)
      | none => none
  | none => none
/-- the pair that a value shows in a heap -/
def kH (h : Heap) : Value → Int × Int
  | .ref a => match h.get? a with
    | some o => match o.data with
      | .seq xs _ => match xs.toList with
        | [.int a _, .int b _] => (a, b)
        | _ => (0, 0)
      | _ => (0, 0)
    | none => (0, 0)
  | _ => (0, 0)
section
variable {X : Cx} {T : Tab} {EE : XX}
theorem listOf_ok {K : PySem.W.Frag} {γ hid : List Addr} {S : Cells} {H : Hp} {ds : List D} {vs : List V} {l : List D} (hold : Hold K T γ hid S H) (r : RpL K T γ (out γ S hid H) ds vs) (e : listOf ds S = some l) :
    ∃ a ws, vs = [.ref a] ∧ SqL K H a ws ∧ l.length ≤ sizeLine ∧ RpL K T γ (out γ S hid H) l ws := by
  unfold listOf at e
  split at e
  · obtain ⟨v, rfl, r1⟩ := rep1 r
    obtain ⟨a, ws, rfl, s1, z, g⟩ := seqL_ok hold r1 e
    exact ⟨a, ws, rfl, s1, z, g⟩
  · cases e
/-- a represented pair, in the heap -/
theorem pair_at {pins : List (Addr × Obj)} {s : Shared} {σ : St} {H : Hp} {γ hid : List Addr} {S : Cells} (I : Inv X pins σ H s) {p : Int × Int} {v : V} {u : Value} (r : Rp X.K T γ (out γ S hid H) (encP p) v) (ru : RelV v u) : Srt.IsPair s.heap u p.1 p.2 ∧ kH s.heap u = p ∧ ∃ t, u = .ref t := by
  obtain ⟨a, ws, rfl, s1, z, g⟩ := seqT_ok r rfl
  obtain ⟨v1, v2, rfl, g1, g2⟩ := rep2 g
  cases g1
  cases g2
  obtain rfl : u = Value.ref a := ru
  obtain ⟨its, rv, ⟨o, ho, hc, n, hd⟩, _⟩ := I.tuple s1
  obtain ⟨u1, u2, rfl, q1, q2⟩ := vals2 rv
  obtain ⟨t1, rfl⟩ := q1
  obtain ⟨t2, rfl⟩ := q2
  refine ⟨⟨a, o, t1, t2, n, rfl, ho, hc, hd⟩, ?_, a, rfl⟩
  unfold kH
  simp only [ho, hd]
theorem zip_pairs {pins : List (Addr × Obj)} {s : Shared} {σ : St} {H : Hp} {γ hid : List Addr} {S : Cells} (I : Inv X pins σ H s) : ∀ {ps : List (Int × Int)} {ws : List V} {its : List Value}, RpL X.K T γ (out γ S hid H) (ps.map encP) ws → Vals ws its →
    its.map (kH s.heap) = ps ∧ (∀ u ∈ its, ∃ t, u = Value.ref t) ∧ (∀ u ∈ its, Srt.IsPair s.heap u (kH s.heap u).1 (kH s.heap u).2 ∧ Rp X.K T γ (out γ S hid H) (encP (kH s.heap u)) (backV u))
  | [], _, _, r, v => by
    cases r
    cases v
    exact ⟨rfl, fun _ h => absurd h (by simp), fun _ h => absurd h (by simp)⟩
  | p :: ps, _, _, r, v => by
    cases r with
    | cons r1 r2 =>
      cases v with
      | cons v1 v2 =>
        obtain ⟨h1, h2, h3⟩ := zip_pairs I r2 v2
        obtain ⟨k1, k2, t, rfl⟩ := pair_at I r1 v1
        refine ⟨by rw [List.map_cons, k2, h1], fun u hu => ?_, fun u hu => ?_⟩
        · rcases List.mem_cons.mp hu with e | hu
          · exact ⟨t, e⟩
          · exact h2 u hu
        · rcases List.mem_cons.mp hu with e | hu
          · subst e
            rw [k2]
            refine ⟨k1, ?_⟩
            have e : backV (.ref t) = _ := RelV.inj (u := Value.ref t) rfl v1
            rw [e]
            exact r1
          · exact h3 u hu
theorem rep_map {K : PySem.W.Frag} {γ : List Addr} {F : Hp} {α : Type} (f : α → D) (g : α → V) : ∀ (l : List α), (∀ a ∈ l, Rp K T γ F (f a) (g a)) → RpL K T γ F (l.map f) (l.map g)
  | [], _ => .nil
  | a :: l, h => .cons (h a List.mem_cons_self) (rep_map f g l fun b hb => h b (List.mem_cons_of_mem _ hb))
theorem cb_sorted : CallR X (.builtin "sorted") (rCL X.K T sortD) := by
  intro pins s σ H vs us Q I rv h
  obtain ⟨γ, hid, S, ds, l, hold, r, e, q⟩ := h
  unfold sortD at e
  split at e
  · rename_i l0 el
    obtain ⟨a, ws, rfl, s1, z, g⟩ := listOf_ok hold r el
    split at e
    · rename_i ns en
      cases e
      obtain ⟨h1, h2⟩ := ints?_rep g en
      subst h1
      refine cr_sortedI pins s σ H _ us Q I rv ⟨a, ns, rfl, s1, fun ns' p hp hs np => ?_⟩
      rw [sortI_uniq hp hs]
      have z2 : ((sortI ns).map D.int).length ≤ sizeLine := by
        rw [List.length_map]
        unfold sortI
        rw [(List.mergeSort_perm ns leB).length_eq]
        rw [h2, List.length_map] at z
        exact z
      exact q.lst hold z2 (rep_ints _) p np
    · split at e
      · rename_i ps ep
        cases e
        have e0 := pairs?_enc ep
        subst e0
        obtain ⟨its, rv2, hl, hz⟩ := I.list s1
        obtain ⟨u, rfl, ru⟩ := vals1 rv
        obtain rfl : u = Value.ref a := ru
        obtain ⟨k1, k2, k3⟩ := zip_pairs I g rv2
        refine SrtO.sorted_pairsO (k := kH s.heap) hl.isList (by rw [← rv2.length]; exact hz) (fun v hv => (k3 v hv).1) fun h' d out h1 h2 kp hd hn => ?_
        obtain ⟨n, hn⟩ := hn
        have h3 : ∀ u ∈ out, ∃ t, u = Value.ref t := fun u hu => k2 u (h2.perm.mem_iff.mp hu)
        have ho : out.map (kH s.heap) = sortP ps := by
          refine sortP_uniq ?_ ?_
          · rw [← k1]
            exact h2.perm.map _
          · exact List.pairwise_map.mpr h1
        have hlen : (out.map backV).length ≤ sizeLine := by
          rw [List.length_map, h2.perm.length_eq, ← rv2.length]
          exact hz
        refine ⟨.ref d, upd H d (.lst (out.map backV)), I.laid (t' := s.toks) kp hd ⟨hlen, out, n, vals_back h3, hn⟩, rfl, ?_⟩
        refine q.lst hold ?_ ?_ d (I.hok.fresh hd)
        · rw [List.length_map, ← ho, List.length_map]
          rw [List.length_map] at hlen
          exact hlen
        · rw [← ho, List.map_map]
          exact rep_map (encP ∘ kH s.heap) backV out fun u hu => (k3 u (h2.perm.mem_iff.mp hu)).2
      · cases e
  · cases e
/-! ### sorted(set(a list of ints)) -/
def insS (x : Int) : List Int → List Int
  | [] => [x]
  | y :: ys => if x < y then x :: y :: ys else if x = y then y :: ys else y :: insS x ys
def setSort (ns : List Int) : List Int := ns.foldr insS []
theorem insS_mem (x : Int) : ∀ (l : List Int) (k : Int), k ∈ insS x l ↔ k = x ∨ k ∈ l
  | [], k => by simp [insS]
  | y :: ys, k => by
    unfold insS
    split
    · simp
    · split
      · rename_i h
        subst h
        simp
      · rw [List.mem_cons, insS_mem x ys k, List.mem_cons]
        constructor
        · rintro (h | h | h)
          · exact .inr (.inl h)
          · exact .inl h
          · exact .inr (.inr h)
        · rintro (h | h | h)
          · exact .inr (.inl h)
          · exact .inl h
          · exact .inr (.inr h)
theorem insS_sorted (x : Int) : ∀ (l : List Int), l.Pairwise (· < ·) → (insS x l).Pairwise (· < ·)
  | [], _ => by simp [insS]
  | y :: ys, h => by
    obtain ⟨h1, h2⟩ := List.pairwise_cons.mp h
    unfold insS
    split
    · rename_i hx
      refine List.pairwise_cons.mpr ⟨fun k hk => ?_, h⟩
      rcases List.mem_cons.mp hk with e | hk
      · rw [e]; exact hx
      · have := h1 k hk
        omega
    · split
      · exact h
      · refine List.pairwise_cons.mpr ⟨fun k hk => ?_, insS_sorted x ys h2⟩
        rcases (insS_mem x ys k).mp hk with e | hk
        · omega
        · exact h1 k hk
theorem setSort_mem (ns : List Int) (k : Int) : k ∈ setSort ns ↔ k ∈ ns := by
  induction ns with
  | nil => simp [setSort]
  | cons n ns ih =>
    show k ∈ insS n (setSort ns) ↔ _
    rw [insS_mem, ih, List.mem_cons]
theorem setSort_sorted (ns : List Int) : (setSort ns).Pairwise (· < ·) := by
  induction ns with
  | nil => exact List.Pairwise.nil
  | cons n ns ih => exact insS_sorted n _ ih
theorem insS_len (x : Int) : ∀ l : List Int, (insS x l).length ≤ l.length + 1
  | [] => by simp [insS]
  | y :: ys => by
    unfold insS
    split
    · simp
    · split
      · simp
      · have := insS_len x ys
        simp
        omega
theorem setSort_len (ns : List Int) : (setSort ns).length ≤ ns.length := by
  induction ns with
  | nil => simp [setSort]
  | cons n ns ih =>
    have := insS_len n (setSort ns)
    show (insS n (setSort ns)).length ≤ _
    simp
    omega
theorem strict_uniq : ∀ {l m : List Int}, l.Pairwise (· < ·) → m.Pairwise (· < ·) → (∀ k, k ∈ l ↔ k ∈ m) → l = m := fun {l m} h1 h2 h => by
  have n1 : l.Nodup := h1.imp fun {a b} h => by omega
  have n2 : m.Nodup := h2.imp fun {a b} h => by omega
  have p : l.Perm m := (List.perm_ext_iff_of_nodup n1 n2).mpr h
  exact List.Perm.eq_of_pairwise (le := fun a b : Int => a < b) (fun a b _ _ q1 q2 => by omega) h1 h2 p
end
end DL
end
section
set_option maxHeartbeats 4000000
/-! DLi: ranges, slices with a step, methods of lists, stores into lists. -/
namespace DL
open PySem PySem.Spec L2
open PyProof.Rows hiding St
section
variable {X : Cx} {T : Tab} {EE : XX} {e o i tg : Expr} {es : List Expr} {f fo fi : En → M D} {fs : En → M (List D)} {p pos : Pos}

/-! ### range(a, b, c) -/
def okR (i j c : Int) : Bool := decide (c ≠ 0) && decide (c.natAbs < 1073741824) && Builtin.Range.small i j c && decide (0 ≤ Builtin.Range.rangeSize i j c) && decide (Builtin.Range.rangeSize i j c ≤ sizeLine)
def rangeC (i j c : Int) : Option (List D) := if okR i j c = true then some ((List.range (Builtin.Range.rangeSize i j c).toNat).map fun k => D.int (i + (k : Nat) * c)) else none
def rangeA (l : List D) : Option (List D) := match l with
  | [.int j] => rangeC 0 j 1
  | [.int i, .int j] => rangeC i j 1
  | [.int i, .int j, .int c] => rangeC i j c
  | _ => none
theorem okR_iff {i j c : Int} (h : okR i j c = true) : RgC i j c (Builtin.Range.rangeSize i j c).toNat ∧ (Builtin.Range.rangeSize i j c).toNat ≤ sizeLine := by
  unfold okR at h
  simp only [Bool.and_eq_true, decide_eq_true_eq] at h
  obtain ⟨⟨⟨⟨h1, h2⟩, h3⟩, h4⟩, h5⟩ := h
  exact ⟨⟨h1, h2, h3, by omega⟩, by omega⟩
/-- a range object -/
def PRgC (X : Cx) (T : Tab) (EE : XX) (e : Expr) (fs : En → M (List D)) : Prop :=
  ∀ (pins : List (Addr × Obj)) (s : Shared) (σ : St) (H : Hp) (R : List D → Hp → Prop), Inv X pins σ H s →
    dG X.K T EE (fun _ _ (a b : List D) => a = b) (fun ρ => M.bind (fs ρ) fun l => M.opt fun _ => rangeA l) σ H R →
    wpAny (model X.prog X.w) X.A (eval e X.env) (fun x s' => ∃ r i j c t u v H', x = .ref r ∧ IsRange s'.heap r i j c t u v ∧ Inv X pins σ H' s' ∧ okR i j c = true ∧ R ((List.range (Builtin.Range.rangeSize i j c).toNat).map fun k => D.int (i + (k : Nat) * c)) H') X.xe s
theorem prgC {e : Expr} {es : List Expr} (hg : Gl X "range") (hm : X.mg "range" = none) (ha : EvA X T EE (e :: es) fs) (he : starEach (e :: es) X.env = (false, eval e X.env) :: starEach es X.env := by rfl) (hpl : (backTo pos (starEach es X.env)).any (·.1) = false := by rfl) : PRgC X T EE (.Call (.Name "range" p) (e :: es) [] pos) fs := by
  intro pins s σ H R I h
  obtain ⟨_, _, _, _, g1, g2, g3⟩ := bindD (rep := repA X.K T) h
  refine Call_ (ld_blt I hg hm boot_range (PyProof.Rows.callWith_type1 (thn (ha.pa.run pos pins s σ H _ I ⟨_, _, _, _, g1, g2, g3⟩) fun us s1 ⟨vs, H1, I1, r1, l, γ1, hid, S1, ρ, q1, q3, q4, q5⟩ => ?_) he hpl))
  obtain ⟨items, er, w5⟩ := opt_ok q5
  unfold rangeA at er
  split at er
  · unfold rangeC at er
    split at er
    · rename_i j ho
      cases er
      obtain ⟨v, rfl, k1⟩ := rep1 q4
      cases k1
      obtain ⟨u, rfl, ru⟩ := vals1 r1
      obtain ⟨t, rfl⟩ := ru
      exact call_range_1 ⟨_, 0, j, 1, _, _, _, H1, rfl, IsRange.new _ _ _ _ _ _ _, I1.kept fun b u e => Heap.get?_push_of_some _ e, ho, w5 γ1 H1 _ q1 (Ext.refl _ _ _) rfl⟩
    · cases er
  · unfold rangeC at er
    split at er
    · rename_i i j ho
      cases er
      obtain ⟨v, u, rfl, k1, k2⟩ := rep2 q4
      cases k1
      cases k2
      obtain ⟨u1, u2, rfl, ru1, ru2⟩ := vals2 r1
      obtain ⟨t, rfl⟩ := ru1
      obtain ⟨t', rfl⟩ := ru2
      exact call_range_2 ⟨_, i, j, 1, _, _, _, H1, rfl, IsRange.new _ _ _ _ _ _ _, I1.kept fun b u e => Heap.get?_push_of_some _ e, ho, w5 γ1 H1 _ q1 (Ext.refl _ _ _) rfl⟩
    · cases er
  · unfold rangeC at er
    split at er
    · rename_i i j c ho
      cases er
      cases q4 with
      | cons k1 q4 =>
        obtain ⟨v, u, rfl, k2, k3⟩ := rep2 q4
        cases k1
        cases k2
        cases k3
        cases r1 with
        | cons ru1 r1 =>
          obtain ⟨u1, u2, rfl, ru2, ru3⟩ := vals2 r1
          obtain ⟨t, rfl⟩ := ru1
          obtain ⟨t', rfl⟩ := ru2
          obtain ⟨t'', rfl⟩ := ru3
          obtain ⟨⟨c0, c1, c2, c3⟩, _⟩ := okR_iff ho
          exact call_range_3 c0 ⟨_, i, j, c, _, _, _, H1, rfl, IsRange.new _ _ _ _ _ _ _, I1.kept (t' := s1.toks) fun b u e => Heap.get?_push_of_some _ e, ho, w5 γ1 H1 _ q1 (Ext.refl _ _ _) rfl⟩ (.inl (PyProof.noPylong_small c1))
    · cases er
  · cases er
theorem vals_rgC {K : PySem.W.Frag} {γ : List Addr} {F : Hp} {i c : Int} {n : Nat} {acc : Array Value} (h : ItemsOf (fun (k : Nat) v => ∃ t, v = .int (i + k * c) t) acc n) : ∃ vs : List V, Vals vs acc.toList ∧ RpL K T γ F ((List.range n).map fun k => D.int (i + (k : Nat) * c)) vs ∧ vs.length = n := by
  have e : acc.toList.length = n := by rw [Array.length_toList]; exact h.1
  refine ⟨(List.range n).map fun k => V.int (i + (k : Nat) * c), ?_, ?_, by simp⟩
  · rw [← e]
    refine vals_of_get acc.toList _ fun j u hj => ?_
    obtain ⟨t, rfl⟩ := h.2 j u (by rw [← hj, Array.getElem?_toList])
    exact ⟨t, rfl⟩
  · exact rep_map _ _ _ fun a _ => .int _
/-- list(range(..)) -/
theorem evL_listRange (hc : X.calm = true) (hg : Gl X "list") (hm : X.mg "list" = none) (he : PRgC X T EE e fs) (na : starEach [e] X.env = (false, eval e X.env) :: starEach [] X.env := by rfl) : EvL X T EE (.Call (.Name "list" p) [e] [] pos) (fun ρ => M.bind (fs ρ) fun l => M.opt fun _ => rangeA l) := by
  refine ⟨⟨fun pins s σ H Q I h => ?_⟩⟩
  have h2 : dG X.K T EE (fun _ _ (a b : List D) => a = b) (fun ρ => M.bind (fs ρ) fun l => M.opt fun _ => rangeA l) σ H (fun l H' => ∃ γ1 hid S1, Hold X.K T γ1 hid S1 H' ∧ ∀ vs, (l.length ≤ sizeLine ∧ RpL X.K T γ1 (out γ1 S1 hid H') l vs) → ∀ q, H' q = none → Q (.ref q) (upd H' q (.lst vs))) := by
    obtain ⟨γ, hid, S, ρ, hold, env, h⟩ := h
    refine ⟨γ, hid, S, ρ, hold, env, ?_⟩
    cases eq : (M.bind (fs ρ) fun l => M.opt fun _ => rangeA l) S with
    | ok l S' =>
      have h : resG X.K T EE (repL X.K T) γ hid S H ρ σ ((M.bind (fs ρ) fun l => M.opt fun _ => rangeA l) S) _ := h
      rw [eq] at h
      refine (show resG X.K T EE (fun _ _ (a b : List D) => a = b) γ hid S H ρ σ ((M.bind (fs ρ) fun l => M.opt fun _ => rangeA l) S) _ from ?_)
      rw [eq]
      intro γ' H' b a1 a2 a3
      cases a3
      exact ⟨γ', hid, S', a1, fun vs hv => h γ' H' vs a1 a2 hv⟩
    | err x S' =>
      have h : resG X.K T EE (repL X.K T) γ hid S H ρ σ ((M.bind (fs ρ) fun l => M.opt fun _ => rangeA l) S) _ := h
      rw [eq] at h
      refine (show resG X.K T EE (fun _ _ (a b : List D) => a = b) γ hid S H ρ σ ((M.bind (fs ρ) fun l => M.opt fun _ => rangeA l) S) _ from ?_)
      rw [eq]
      exact h
    | stuck =>
      have h : resG X.K T EE (repL X.K T) γ hid S H ρ σ ((M.bind (fs ρ) fun l => M.opt fun _ => rangeA l) S) _ := h
      rw [eq] at h
      refine (show resG X.K T EE (fun _ _ (a b : List D) => a = b) γ hid S H ρ σ ((M.bind (fs ρ) fun l => M.opt fun _ => rangeA l) S) _ from ?_)
      rw [eq]
      exact h
  refine Call_ (ld_blt I hg hm boot_list (PyProof.Rows.callWith_type1 (args_cons (thn (he pins s σ H _ I h2) fun x s1 ⟨r, i, j, c, t, u, v, H1, ex, hr, I1, ok, γ1, hid, S1, q1, q⟩ => args_nil ?_) na) na))
  subst ex
  obtain ⟨⟨c0, c1, c2, c3⟩, zl⟩ := okR_iff ok
  refine call_list_range (n := (Builtin.Range.rangeSize i j c).toNat) (I1.ok.hd hc) hr c2 c3 (by rw [sizeLine_eq] at zl; exact zl) fun h' tk acc c' hk e' hi => ?_
  obtain ⟨vs, k1, k2, k3⟩ := vals_rgC (K := X.K) (T := T) (γ := γ1) (F := out γ1 S1 hid H1) hi
  refine ⟨.ref s1.heap.objs.size, upd H1 s1.heap.objs.size (.lst vs), I1.laid hk (Nat.le_refl _) (show ObjOk X.prog X.w _ _ _ (.lst vs) from ⟨by rw [k3]; exact zl, acc.toList, c', k1, ?_⟩), rfl, q vs ⟨by simpa using zl, k2⟩ _ (I1.hok.fresh (Nat.le_refl _))⟩
  rw [Array.toArray_toList]
  exact e'
def range3 (l : List D) : Option (List D) := match l with
  | [.int i, .int j, .int c] => rangeC i j c
  | _ => none
theorem ei_range3 {a b c : Expr} (hg : Gl X "range") (hm : X.mg "range" = none) (ha : EvA X T EE [a, b, c] fs)
    (hs : starEach [a, b, c] X.env = (false, eval a X.env) :: starEach [b, c] X.env := by rfl) (hpl : (backTo pos (starEach [b, c] X.env)).any (·.1) = false := by rfl) :
    EvI X T EE tg (.Call (.Name "range" p) [a, b, c] [] pos) (fun ρ => M.bind (fs ρ) fun l => M.opt fun _ => range3 l) := by
  refine ⟨(pi_range3 hg hm ha.pa hs hpl).dimp fun σ H R h => ?_⟩
  refine (show dG X.K T EE (repA X.K T) fs σ H _ from ?_)
  obtain ⟨_, _, _, _, h1, h2, h3⟩ := bindD (rep := repA X.K T) h
  refine ⟨_, _, _, _, h1, h2, h3.imp fun vs H1 ⟨l, γ1, hid, S1, ρ, q1, q3, q4, q5⟩ => ?_⟩
  obtain ⟨d, e, w5⟩ := opt_ok q5
  unfold range3 at e
  split at e
  · unfold rangeC at e
    split at e
    · rename_i ho
      cases e
      cases q4 with
      | cons k1 q4 =>
        obtain ⟨v, u, rfl, k2, k3⟩ := rep2 q4
        cases k1
        cases k2
        cases k3
        obtain ⟨r1, zl⟩ := okR_iff ho
        exact ⟨_, _, _, _, rfl, r1, w5 γ1 H1 _ q1 (Ext.refl _ _ _) (repI_rangeC _ _ _ zl)⟩
    · cases e
  · cases e

/-! ### xs[::k], k 1 or -1 -/
def sliceStepD (d k : D) (S : Cells) : Option (List D) := match k, seqL S d with
  | .int 1, some l => some l
  | .int (-1), some l => some l.reverse
  | _, _ => none
theorem evL_step {k : Expr} {fk : En → M D} {p3 : Pos} (he : EvE X T EE e f) (hk : EvE X T EE k fk) (hsub : ∀ o i, subscripted (.Slice none none (some k) p3) false o i = operate [o, i] (getItem o i) := by intro _ _; with_unfolding_all rfl) :
    EvL X T EE (.Subscript e (.Slice none none (some k) p3) pos) (fun ρ => M.bind (f ρ) fun d => M.bind (fk ρ) fun y => M.opt (sliceStepD d y)) := by
  refine ⟨⟨fun pins s σ H Q I h => ?_⟩⟩
  obtain ⟨γ, hid, S, ρ, hold, env, h⟩ := h
  have g := bindR (rep := repE X.K T) hold env h
  refine Subscript_ (thn (he.pe.run pins s σ H _ I g) fun v s1 ⟨x, H1, I1, r1, d1, γ1, S1, q1, q2, q3, q4, q5⟩ => ?_)
  have hst : PO X (some k) (tPart (dE X.K T EE fk)) := po_some hk.pe
  refine wpAny_Slice (thn (po_none.run pins s1 σ H1 (fun o H2 => o = none ∧ H2 = H1) I1 ⟨rfl, rfl⟩) fun vl s2 ⟨l, H2, I2, pl, el, e2⟩ => ?_)
  subst el e2
  refine thn (po_none.run pins s2 σ H2 (fun o H3 => o = none ∧ H3 = H2) I2 ⟨rfl, rfl⟩) fun vu s3 ⟨u, H3, I3, pu, eu, e3⟩ => ?_
  subst eu e3
  have g2 := bindR (rep := repE X.K T) q1 q3 q5
  have g3 : tPart (dE X.K T EE fk) σ H3 (fun o H4 => ∃ k l γ2 S2 a vs, o = some (k : Int) ∧ Hold X.K T γ2 hid S2 H4 ∧ x = .ref a ∧ SqL X.K H4 a vs ∧ l.length ≤ sizeLine ∧ RpL X.K T γ2 (out γ2 S2 hid H4) l vs ∧
      ((k = 1 ∧ okL X.K T γ2 hid S2 H4 l S2 Q) ∨ (k = -1 ∧ okL X.K T γ2 hid S2 H4 l.reverse S2 Q))) := by
    refine (show dG X.K T EE (repE X.K T) fk σ H3 _ from ?_)
    obtain ⟨γ', hid', S', ρ', h1, h2, h3⟩ := g2
    refine ⟨γ', hid', S', ρ', h1, h2, h3.imp fun y H4 ⟨d2, γ2, S2, w1, w2, w3, w4, w5⟩ => ?_⟩
    obtain ⟨l, er, w6⟩ := opt_ok w5
    have w7 : okL X.K T γ2 hid S2 H4 l S2 Q := fun γ' H' vs a1 a2 z a3 => w6 γ' H' vs a1 a2 ⟨z, a3⟩
    have q4' := w2.rp q4
    unfold sliceStepD at er
    split at er
    · rename_i l0 el
      cases er
      cases w4
      obtain ⟨a, vs, rfl, s1, z, g⟩ := seqL_ok w1 q4' el
      exact ⟨1, rfl, 1, l, γ2, S2, a, vs, rfl, w1, rfl, s1, z, g, .inl ⟨rfl, w7⟩⟩
    · rename_i l0 el
      cases er
      cases w4
      obtain ⟨a, vs, rfl, s1, z, g⟩ := seqL_ok w1 q4' el
      exact ⟨-1, rfl, -1, _, γ2, S2, a, vs, rfl, w1, rfl, s1, z, g, .inr ⟨rfl, w7⟩⟩
    · cases er
  refine thn (hst.run pins s3 σ H3 _ I3 g3) fun vs s4 ⟨o, H4, I4, ps, kk, l, γ2, S2, a, ws, eo, w1, ex, s1, z, g, fin⟩ => ?_
  subst eo ex
  cases r1
  have I5 : Inv X pins σ H4 { s4 with heap := s4.heap.push { cls := .type "slice", data := .fields #[vl, vu, vs] } } := I4.kept (t' := s4.toks) fun b ob q => Heap.get?_push_of_some _ q
  obtain ⟨its, r, ht, hz⟩ := I5.list s1
  have hlen := r.length
  show wpAny (model X.prog X.w) X.A (subscriptTail e (.Slice none none (some k) p3) (.ref a) (.ref s4.heap.objs.size)) (EP X pins σ Q) X.xe { s4 with heap := s4.heap.push { cls := .type "slice", data := .fields #[vl, vu, vs] } }
  refine tail_any (ops := [.ref a, .ref s4.heap.objs.size]) ht.isList.typeIs (PySem.slot_list_getitem.lookup) ?_ (hsub _ _)
  rcases fin with ⟨rfl, fin⟩ | ⟨rfl, fin⟩
  · refine wpAny_getItem_list_slice ht.isList (Heap.IsSliceOf.new _ vl vu vs) pl pu ps (by decide) ?_ (by rw [List.size_toArray]; omega)
    have pick1 : slicePick its.toArray none none (some 1) = its.toArray := by
      show slicePick its.toArray none none none = its.toArray
      rw [slicePick_cut]
      simp [HT.sIx_none]
    rw [pick1]
    refine ⟨.ref _, _, I5.laid (t' := s4.toks) (o := .lst ws) (fun b ob q => Heap.get?_push_of_some _ q) (Nat.le_refl _) ?_, rfl, fin.lst w1 z g _ (I5.hok.fresh (Nat.le_refl _))⟩
    exact ⟨hz, _, 0, r, Heap.get?_push_size _ rfl⟩
  · refine wpAny_getItem_list_slice ht.isList (Heap.IsSliceOf.new _ vl vu vs) pl pu ps (by decide) ?_ (by rw [List.size_toArray]; omega)
    rw [PySem.W.krv_pick]
    refine ⟨.ref _, _, I5.laid (t' := s4.toks) (o := .lst ws.reverse) (fun b ob q => Heap.get?_push_of_some _ q) (Nat.le_refl _) ?_, rfl, fin.lst w1 (by rw [List.length_reverse]; exact z) g.reverse _ (I5.hok.fresh (Nat.le_refl _))⟩
    exact ⟨by rw [List.length_reverse]; exact hz, _, 0, r.reverse, Heap.get?_push_size _ rfl⟩

/-! ### methods -/
def rMt (K : PySem.W.Frag) (T : Tab) (op : D → List D → Cells → Option (D × Cells)) : V → List V → Hp → VK → Prop := fun x vs H Q => ∃ γ hid S d ds d' S', Hold K T γ hid S H ∧ Rp K T γ (out γ S hid H) d x ∧ RpL K T γ (out γ S hid H) ds vs ∧ op d ds S = some (d', S') ∧ okV K T γ hid S H d' S' Q
/-- the receiver is of that class -/
def isTy (tn : String) (d : D) (S : Cells) : Option Unit := match d with
  | .str _ => if tn = "str" then some () else none
  | .int _ => if tn = "int" then some () else none
  | d => if tn = "list" ∧ (seqL S d).isSome = true then some () else none
theorem isTy_ok {K : PySem.W.Frag} {γ hid : List Addr} {S : Cells} {H : Hp} {tn : String} (h : Hold K T γ hid S H) {d : D} {v : V} (r : Rp K T γ (out γ S hid H) d v) (e : isTy tn d S = some ()) : tyV K tn v H := by
  unfold isTy at e
  split at e
  · cases r
    split at e
    · assumption
    · cases e
  · cases r
    split at e
    · assumption
    · cases e
  · split at e
    · rename_i hz
      cases q : seqL S d with
      | none => rw [q] at hz; cases hz.2
      | some l =>
        obtain ⟨a, vs, rfl, s1, _, _⟩ := seqL_ok h r q
        exact .inl ⟨hz.1, vs, s1⟩
    · cases e
theorem chg_ok {K : PySem.W.Frag} {α β : Type} {rep : List Addr → Hp → α → β → Prop} {γ hid : List Addr} {S : Cells} {H : Hp} {ρ : En} {σ : St} {Q : β → Hp → Prop} {f : Cells → Option (α × Cells)} (h : resG K T EE rep γ hid S H ρ σ (M.chg f S) Q) : ∃ a S', f S = some (a, S') ∧ resG K T EE rep γ hid S H ρ σ (.ok a S') Q := by
  unfold M.chg at h
  split at h
  · rename_i a S' e
    exact ⟨a, S', e, h⟩
  · exact h.elim
variable {name : Str} {apos cpos : Pos} {tn id : String} {op : D → List D → Cells → Option (D × Cells)}
theorem ev_meth (pa : PlainAttrs tn) (slot : Slot tn name id) (hty : typeOf (.builtin id) = pure (.type "method_descriptor")) (hm : MtR X id (rMt X.K T op)) (ho : EvE X T EE o fo) (ha : EvA X T EE (e :: es) fs)
    (hbase : attributeBase o name X.env (eval o X.env) = eval o X.env := by rfl)
    (hfew : ((backTo cpos (starEach (e :: es) X.env)).all (fun x => !x.1) && (backToKw cpos (keywordEach [] X.env)).all (fun x => x.1.isSome)
      && decide ((e :: es).length + ([] : List Keyword).length + (if ([] : List Keyword).isEmpty then 0 else 1) < 30)) = true := by rfl)
    (hline : (apos.endLine == cpos.line) = true := by rfl) (hs : starEach (e :: es) X.env = (false, eval e X.env) :: starEach es X.env := by rfl) (hplain : (backTo cpos (starEach es X.env)).any (·.1) = false := by rfl) :
    EvE X T EE (.Call (.Attribute o name apos) (e :: es) [] cpos) (fun ρ => M.bind (fo ρ) fun d => M.bind (M.opt (isTy tn d)) fun _ => M.bind (fs ρ) fun ds => M.chg (op d ds)) := by
  refine ⟨(pe_bm pa slot hty hm ho.pe ha.pa hbase hfew hline hs hplain).dimp fun σ H Q h => ?_⟩
  refine (show dG X.K T EE (repE X.K T) fo σ H _ from ?_)
  obtain ⟨γ, hid, S, ρ, hold, env, h⟩ := h
  obtain ⟨_, _, _, _, h1, h2, h3⟩ := bindR (rep := repE X.K T) hold env h
  refine ⟨_, _, _, _, h1, h2, h3.imp fun x H1 ⟨d1, γ1, S1, q1, q2, q3, q4, q5⟩ => ?_⟩
  cases et : isTy tn d1 S1 with
  | none =>
    rw [bind_of_stuck (opt_none et)] at q5
    exact q5.elim
  | some u =>
    rw [bind_of_ok (opt_some et)] at q5
    refine ⟨isTy_ok q1 q4 et, ?_⟩
    obtain ⟨_, _, _, _, h1, h2, h3⟩ := bindR (rep := repA X.K T) q1 q3 q5
    refine ⟨_, _, _, _, h1, h2, h3.imp fun vs H2 ⟨ds, γ2, S2, w1, w2, w3, w4, w5⟩ => ?_⟩
    obtain ⟨d', S', e, w5⟩ := chg_ok w5
    exact ⟨γ2, hid, S2, d1, ds, d', S', w1, w2.rp q4, w4, e, w5⟩
theorem ev_meth0 (pa : PlainAttrs tn) (slot : Slot tn name id) (hty : typeOf (.builtin id) = pure (.type "method_descriptor")) (hm : MtR X id (rMt X.K T op)) (ho : EvE X T EE o fo)
    (hbase : attributeBase o name X.env (eval o X.env) = eval o X.env := by rfl) (hline : (apos.endLine == cpos.line) = true := by rfl) :
    EvE X T EE (.Call (.Attribute o name apos) [] [] cpos) (fun ρ => M.bind (fo ρ) fun d => M.bind (M.opt (isTy tn d)) fun _ => M.chg (op d [])) := by
  refine ⟨(pe_bm0 pa slot hty hm ho.pe hbase hline).dimp fun σ H Q h => ?_⟩
  refine (show dG X.K T EE (repE X.K T) fo σ H _ from ?_)
  obtain ⟨_, _, _, _, h1, h2, h3⟩ := bindD (rep := repE X.K T) h
  refine ⟨_, _, _, _, h1, h2, h3.imp fun x H1 ⟨d1, γ1, hid, S1, ρ, q1, q3, q4, q5⟩ => ?_⟩
  cases et : isTy tn d1 S1 with
  | none =>
    rw [bind_of_stuck (opt_none et)] at q5
    exact q5.elim
  | some u =>
    rw [bind_of_ok (opt_some et)] at q5
    refine ⟨isTy_ok q1 q4 et, ?_⟩
    obtain ⟨d', S', e, w5⟩ := chg_ok q5
    exact ⟨γ1, hid, S1, d1, [], d', S', q1, q4, .nil, e, w5⟩
/-- a live list -/
def liveL (d : D) (S : Cells) : Option (Nat × List D) := match d with
  | .ref n => match S[n]? with
    | some ⟨true, .lst l⟩ => some (n, l)
    | _ => none
  | _ => none
theorem liveL_ok {K : PySem.W.Frag} {γ hid : List Addr} {S : Cells} {H : Hp} (h : Hold K T γ hid S H) {d : D} {v : V} {n : Nat} {l : List D} (r : Rp K T γ (out γ S hid H) d v) (e : liveL d S = some (n, l)) :
    ∃ a vs, v = .ref a ∧ H a = some (.lst vs) ∧ l.length ≤ sizeLine ∧ RpL K T [] (out γ S hid H) l vs ∧
      ∀ (l' : List D) (vs' : List V) (d' : D) (v' : V) (Q : VK), l'.length ≤ sizeLine → RpL K T [] (out γ S hid H) l' vs' → Rp K T [] (out γ S hid H) d' v' → okV K T γ hid S H d' (S.set n ⟨true, .lst l'⟩) Q → Q v' (upd H a (.lst vs')) := by
  unfold liveL at e
  split at e
  · split at e
    · rename_i q
      cases e
      cases r with
      | ref a =>
        obtain ⟨vs, h1, z, h2⟩ := h.list a q
        refine ⟨_, vs, rfl, h1, z, h2, fun l' vs' d' v' Q z' r' rd fin => ?_⟩
        obtain ⟨a1, a2⟩ := h.write a q (.lst z' r')
        exact fin γ _ v' a1 a2 (Rp.nil_any (a2.sameH hid) rd)
    · cases e
  · cases e
def mAppend (d : D) (ds : List D) (S : Cells) : Option (D × Cells) := match ds, liveL d S with
  | [x], some (n, l) => if x.flat = true ∧ l.length < sizeLine then some (.non, S.set n ⟨true, .lst (l ++ [x])⟩) else none
  | _, _ => none
theorem mt_mAppend : MtR X "list.append" (rMt X.K T mAppend) := by
  intro pins s σ H x vs v us Q I rx rv h
  refine mt_append pins s σ H x vs v us Q I rx rv ?_
  obtain ⟨γ, hid, S, d, ds, d', S', hold, r1, r2, e, q⟩ := h
  unfold mAppend at e
  split at e
  · rename_i y n l el
    split at e
    · rename_i hz
      cases e
      obtain ⟨w, rfl, ry⟩ := rep1 r2
      obtain ⟨a, ws, rfl, h1, z, g, fin⟩ := liveL_ok hold r1 el
      refine ⟨a, ws, w, rfl, rfl, h1, by rw [← g.length]; exact hz.2, fin _ _ .non .non Q ?_ (g.append (.one (Rp.toflat _ _ hz.1 ry))) .non q⟩
      rw [List.length_append]
      have := hz.2
      simp only [List.length_singleton]
      omega
    · cases e
  · cases e
def mInsert (d : D) (ds : List D) (S : Cells) : Option (D × Cells) := match ds, liveL d S with
  | [.int i, x], some (n, l) => if x.flat = true ∧ l.length < sizeLine ∧ 0 ≤ i ∧ i < 2 ^ 63 then some (.non, S.set n ⟨true, .lst (l.take i.toNat ++ [x] ++ l.drop i.toNat)⟩) else none
  | _, _ => none
theorem mt_mInsert : MtR X "list.insert" (rMt X.K T mInsert) := by
  intro pins s σ H x vs v us Q I rx rv h
  refine mt_insert pins s σ H x vs v us Q I rx rv ?_
  obtain ⟨γ, hid, S, d, ds, d', S', hold, r1, r2, e, q⟩ := h
  unfold mInsert at e
  split at e
  · rename_i i y n l el
    split at e
    · rename_i hz
      cases e
      obtain ⟨w0, w, rfl, r0, ry⟩ := rep2 r2
      cases r0
      obtain ⟨a, ws, rfl, h1, z, g, fin⟩ := liveL_ok hold r1 el
      refine ⟨a, ws, i, w, rfl, rfl, h1, by rw [← g.length]; exact hz.2.1, hz.2.2.1, hz.2.2.2, fin _ _ .non .non Q ?_ (((g.take i.toNat).append (.one (Rp.toflat _ _ hz.1 ry))).append (g.drop i.toNat)) .non q⟩
      rw [List.length_append, List.length_append, List.length_take, List.length_drop]
      have := hz.2.1
      simp only [List.length_singleton]
      omega
    · cases e
  · cases e
def mPop (d : D) (ds : List D) (S : Cells) : Option (D × Cells) := match ds, liveL d S with
  | [], some (n, l) => match l[l.length - 1]? with
    | some y => some (y, S.set n ⟨true, .lst l.dropLast⟩)
    | none => none
  | _, _ => none
def mPopAt (d : D) (ds : List D) (S : Cells) : Option (D × Cells) := match ds, liveL d S with
  | [.int i], some (n, l) => if -(2 ^ 63) ≤ i ∧ i < 2 ^ 63 then match ixN l.length i with
    | some k => match l[k]? with
      | some y => some (y, S.set n ⟨true, .lst (l.eraseIdx k)⟩)
      | none => none
    | none => none else none
  | _, _ => none
theorem RpL.dropLast {K : PySem.W.Frag} {γ : List Addr} {F : Hp} {l : List D} {vs : List V} (r : RpL K T γ F l vs) : RpL K T γ F l.dropLast vs.dropLast := by
  rw [List.dropLast_eq_take, List.dropLast_eq_take, r.length]
  exact r.take _
theorem mt_mPop : MtR X "list.pop" (rMt X.K T mPop) := by
  intro pins s σ H x vs v us Q I rx rv h
  refine mt_pop pins s σ H x vs v us Q I rx rv ?_
  obtain ⟨γ, hid, S, d, ds, d', S', hold, r1, r2, e, q⟩ := h
  unfold mPop at e
  split at e
  · rename_i n l el
    split at e
    · rename_i y ey
      cases e
      cases r2
      obtain ⟨a, ws, rfl, h1, z, g, fin⟩ := liveL_ok hold r1 el
      obtain ⟨w, ew, ry⟩ := g.get ey
      rw [g.length] at ew
      exact ⟨a, ws, w, rfl, rfl, h1, ew, fin _ _ _ _ Q (by rw [List.length_dropLast]; omega) g.dropLast ry q⟩
    · cases e
  · cases e
theorem mt_mPopAt : MtR X "list.pop" (rMt X.K T mPopAt) := by
  intro pins s σ H x vs v us Q I rx rv h
  refine mt_popAt pins s σ H x vs v us Q I rx rv ?_
  obtain ⟨γ, hid, S, d, ds, d', S', hold, r1, r2, e, q⟩ := h
  unfold mPopAt at e
  split at e
  · rename_i i n l el
    split at e
    · rename_i hi
      split at e
      · rename_i k ek
        split at e
        · rename_i y ey
          cases e
          obtain ⟨w0, rfl, r0⟩ := rep1 r2
          cases r0
          obtain ⟨a, ws, rfl, h1, z, g, fin⟩ := liveL_ok hold r1 el
          obtain ⟨w, ew, ry⟩ := g.get ey
          rw [g.length] at ek
          exact ⟨a, ws, i, k, w, rfl, rfl, h1, hi.1, hi.2, (ixN_seq ek).1, ew, fin _ _ _ _ Q (Nat.le_trans (len_erase _ _) z) (g.eraseIdx k) ry q⟩
        · cases e
      · cases e
    · cases e
  · cases e

/-! ### xs[i] = e -/
def setAtD (d i y : D) (S : Cells) : Option Cells := match i, liveL d S with
  | .int k, some (n, l) => match ixN l.length k with
    | some j => if y.flat = true then some (S.set n ⟨true, .lst (l.set j y)⟩) else none
    | none => none
  | _, _ => none
theorem es_store (he : EvE X T EE e f) (ho : EvE X T EE o fo) (hi : EvE X T EE i fi) (hs : swapsWithSole [.Subscript o i p] e pos.line X.env = pure false := by rfl) (hw : swappedStores [.Subscript o i p] e X.env = pure none := by rfl)
    (h1 : (assignEach [.Subscript o i p] X.env).map (·.2) = [assign (.Subscript o i p) X.env] := by rfl)
    (ha : ∀ v, assign (.Subscript o i p) X.env v = (do
      let ov ← holding [v] (eval o X.env)
      let iv ← holding [v, ov] (eval i X.env)
      standAt p
      holding [v, ov, iv] (setItem ov iv v)
      release [v, ov, iv] []) := by intro _; rfl) : EvS X T EE (.Assign [.Subscript o i p] e pos) (bindS f fun y => bindS fo fun d => bindS fi fun k ρ S => match setAtD d k y S with
      | some S' => .nx ρ S'
      | none => .stuck) := by
  refine ⟨(ps_asg he.pe (pg_sub ho.pe hi.pe set_list ha) hs hw h1).dimp fun Dn σ H h => ?_⟩
  refine (show dG X.K T EE (repE X.K T) f σ H _ from ?_)
  obtain ⟨γ, hid, S, ρ, hold, env, h⟩ := h
  obtain ⟨_, _, _, _, h1, h2, h3⟩ := bindSR (rep := repE X.K T) hold env h
  refine ⟨_, _, _, _, h1, h2, h3.imp fun vy H1 ⟨y, γ1, S1, q1, q2, q3, q4, q5⟩ => ?_⟩
  refine (show dG X.K T EE (repE X.K T) fo σ H1 _ from ?_)
  obtain ⟨_, _, _, _, h1, h2, h3⟩ := bindSR (rep := repE X.K T) q1 q3 q5
  refine ⟨_, _, _, _, h1, h2, h3.imp fun vo H2 ⟨d, γ2, S2, w1, w2, w3, w4, w5⟩ => ?_⟩
  refine (show dG X.K T EE (repE X.K T) fi σ H2 _ from ?_)
  obtain ⟨_, _, _, _, h1, h2, h3⟩ := bindSR (rep := repE X.K T) w1 w3 w5
  refine ⟨_, _, _, _, h1, h2, h3.imp fun vi H3 ⟨k, γ3, S3, u1, u2, u3, u4, u5⟩ => ?_⟩
  cases es : setAtD d k y S3 with
  | none =>
    simp only [es] at u5
    exact u5.elim
  | some S' =>
    simp only [es] at u5
    unfold setAtD at es
    split at es
    · rename_i kk n l el
      split at es
      · rename_i j ej
        split at es
        · rename_i hf
          cases es
          cases u4
          obtain ⟨a, ws, rfl, g1, z, g, fin⟩ := liveL_ok u1 (u2.rp w4) el
          rw [g.length] at ej
          have ry := Rp.toflat _ _ hf (u2.rp (w2.rp q4))
          refine ⟨a, ws, kk, j, rfl, rfl, g1, ej, ?_⟩
          exact fin (l.set j y) (ws.set j vy) .non .non (fun _ H' => Dn.nx σ H') (by rw [List.length_set]; exact z) (g.set ry j) .non fun γ' H' v b1 b2 b3 => u5 γ' H' σ b1 b2 (u3.mono b2.pre (b2.sameH hid))
        · cases es
      · cases es
    · cases es
end
end DL
end
section
set_option maxHeartbeats 2000000
/-! DLz: the law's own end, for defs whose promise wants that no repr is under way. -/
namespace DL
open PySem PySem.Spec L2
open PyProof.Rows hiding St

/-- the law's promise, at the heap behind the top -/
theorem law_callG {P : Program} {w : World} {K : PySem.W.Frag} {mg mb : Str → Option Value} {k : Nat} {fa a : Addr} {fd : FuncData} {x : Str} {sp : Sp} {t : Shared} {vs : List Value} {ns : List Int}
    (KX : K.In t.heap) (hns : t.heap.Ns mainGlobals mg) (hb : t.heap.Ns builtinsNs mb) (hbb : ∀ x : Str, x ≠ "__name__" → mb x = bootBuiltins x) (hlim : t.heap.NoLimit) (hg : t.gens = #[])
    (ha : t.heap.get? a = some { cls := .type "list", data := .seq vs.toArray }) (hi : IntsAre vs ns) (hl : ns.length ≤ sizeLine) (hr : Room k callerA)
    (F : ∀ base : Heap, K.In base → base.Ns mainGlobals mg → FnG P w K mg base k fa fd [x] sp) (hbind : ∀ (s : Shared) (u : Value), BindsTo s fd ⟨[u], []⟩ [(x, u)])
    (hsp : ∀ H : Hp, Only H → SqL K H a (ns.map V.int) → sp [.ref a] H (fun v _ => v = .bl true) fun _ _ _ => False) :
    codeAny (model P w) callerA (.call (.ref fa) ⟨[.ref a], []⟩) (fun r t' => r = .ok (.ret (.bool true)) ∧ OldK t.heap t'.heap ∧ t'.os = t.os ∧ AllBare t'.gens) t := by
  have rv := vals_ints hi
  have len := hi.length
  have core : ∀ H : Hp, Only H → SqL K H a (ns.map V.int) → HOk P w H t.heap → (∀ b, H b ≠ none → b = a) → (H a ≠ none → K.lookup a = none) →
      codeAny (model P w) callerA (.call (.ref fa) ⟨[.ref a], []⟩) (fun r t' => r = .ok (.ret (.bool true)) ∧ OldK t.heap t'.heap ∧ t'.os = t.os ∧ AllBare t'.gens) t := by
    intro H only sq hok one kn
    have isA : ∀ {b : Addr}, H b ≠ none → b = a := fun q => one _ q
    have nod : ∀ {b : Addr} {o : Obj} {es : Array DictEntry} {ep : Nat}, t.heap.get? b = some o → o.data = .dict es ep → H b = none := fun {b o es ep} e d => by
      cases q : H b with
      | none => rfl
      | some u =>
        have z := isA (b := b) (by rw [q]; simp)
        subst z
        rw [ha] at e
        cases e
        have d2 : Data.seq vs.toArray _ = Data.dict es ep := d
        cases d2
    have nsK : ∀ {b : Addr} {m : Str → Option Value}, t.heap.Ns b m → (hidT t.heap H).Ns b m := fun {b m} ⟨o, es, ep, e, d, r⟩ => ⟨o, es, ep, hidT_get e (nod e d), d, r⟩
    have kin : K.In (hidT t.heap H) := fun b o e => hidT_get (KX b o e) (by
      cases q : H b with
      | none => rfl
      | some u =>
        have z := isA (b := b) (by rw [q]; simp)
        subst z
        rw [kn (by rw [q]; simp)] at e
        cases e)
    have hm : Mod K mg (hidT t.heap H) := ⟨kin, nsK hns, ⟨mb, nsK hb, hbb⟩, let ⟨m, p, q⟩ := hlim; ⟨m, nsK p, q⟩⟩
    have e0 : Env0 P w K mg (hidT t.heap H) callerA [] t H := ⟨rfl, hm, fun b o e => of_hidT e, Nat.le_of_eq (hidT_size _ _), trivial, fun b hb => absurd (show b ∈ ([] : List Addr) from hb) (by simp), hok, .of_eq hg⟩
    refine codeAny_mono ((F _ kin (nsK hns)).run callerA [] t H ⟨[.ref a], []⟩ [.ref a] [.ref a] _ _ hr rfl e0 (hbind t (.ref a)) (.cons rfl .nil) (hsp H only sq)) fun r t' h => ?_
    cases r with
    | error e => exact False.elim h
    | ok fl =>
      cases fl with
      | next => exact False.elim h
      | brk => exact False.elim h
      | cont => exact False.elim h
      | ret u =>
        obtain ⟨v, H', os, bare, un, hok', r', q⟩ := h
        have q2 : v = .bl true := q
        subst q2
        obtain rfl : u = Value.bool true := r'
        refine ⟨rfl, OldK.of_keep fun b o e => ?_, os, bare⟩
        cases q : H b with
        | none => exact un.keep b o e q (by intro z; exact absurd (show b ∈ ([] : List Addr) from z) (by simp)) (by simp)
        | some u =>
          rcases only b with z | ⟨ob, xs, z⟩
          · rw [q] at z
            cases z
          · obtain ⟨e1, _⟩ := hok b _ z
            obtain ⟨e2, _⟩ := hok' b _ (un.frzs b ob _ z)
            rw [e] at e1
            cases e1
            exact e2
  cases hk : K.lookup a with
  | some o =>
    have e := KX a o hk
    rw [ha] at e
    cases e
    exact core (fun _ => none) (fun _ => .inl rfl) (.inr ⟨_, vs.toArray, _, hk, rfl, rfl, rfl, by rw [List.size_toArray, len]; exact hl, by simpa using rv⟩) (fun b u z => by have z2 : (none : Option HO) = some u := z; cases z2) (fun b z => absurd rfl z) fun z => absurd rfl z
  | none =>
    refine core (fun b => if b = a then some (.frz { cls := .type "list", data := .seq vs.toArray } (.lst (ns.map V.int))) else none) (fun b => ?_) (.inl (.inr ⟨{ cls := .type "list", data := .seq vs.toArray }, if_pos rfl⟩)) (fun b u z => ?_) (fun b z => ?_) fun _ => hk
    · by_cases hb : b = a
      · exact .inr ⟨_, _, if_pos hb⟩
      · exact .inl (if_neg hb)
    · by_cases hb : b = a
      · have z2 := (if_pos hb).symm.trans z
        cases z2
        subst hb
        exact ⟨ha, by rw [List.length_map]; exact hl, vs, _, rv, ha⟩
      · have z2 := (if_neg hb).symm.trans z
        cases z2
    · by_cases hb : b = a
      · exact hb
      · exact absurd (if_neg hb) z
/-- what k_head leaves, from the law's reading -/
theorem walk_D {l : PySem.W.OpenLaw} {n k : Nat} {q : Program} {loose : List Str} {XP : (Str → Option Value) → Heap → Prop} {YP : World → Heap → Prop} {d : DefRec} {g : List D → M D} {x : Str}
    (hn : l.most = some n) (hn2 : n ≤ sizeLine) (hdf : d.params.defaults = []) (hr : Room k callerA)
    (F : ∀ (w : World) (mg : Str → Option Value) (fa : Addr) (h : Heap), YP w h → h.Ns mainGlobals mg → mg d.name = some (.ref fa) →
      ∃ (K : PySem.W.Frag) (fd : FuncData) (T : Tab), K.In h ∧ (∀ (s : Shared) (u : Value), BindsTo s fd ⟨[u], []⟩ [(x, u)]) ∧
        ∀ base : Heap, K.In base → base.Ns mainGlobals mg → FnG l.prog w K mg base k fa fd [x] (spD K T 1 g))
    (law : ∀ ns : List Int, ns.length ≤ n → ∃ S, g [.lst (ns.map .int)] [] = .ok (.bl true) S) :
    PySem.W.WalkO q loose XP YP l.row.toRowW d [] (fun f vs => PySem.call f vs) := by
  refine Att.attach_call hn hdf fun w t0 t mg mb fa o pm cd doc a vs ns G Y ho hd hcd hmg hobj hints hlen hg => ?_
  obtain ⟨K, fd, T, KX, hb, hF⟩ := F w mg fa _ Y G.T.g hmg
  refine law_callG KX G.T.g G.T.b G.T.builtins G.T.nolimit hg hobj hints (Nat.le_trans hlen hn2) hr hF hb fun H only sq => ?_
  obtain ⟨S, e⟩ := law ns hlen
  refine ⟨[], [], [], [.lst (ns.map .int)], ⟨rfl, List.nodup_nil, fun n a c e => by simp at e, fun a h => by simp at h, fun a h => by simp at h⟩, .cons (.lst ?_ (by rw [List.length_map]; exact Nat.le_trans hlen hn2) (rep_ints ns)) .nil, rfl, _, S, e, fun γ' H' v _ _ r => ?_⟩
  · have e : out [] [] [] H = H := by
      funext b
      unfold out liveAt
      simp
    rw [e]
    exact sq
  · cases r
    rfl
end DL
end
section
set_option maxHeartbeats 8000000
/-! DLh: set(a list of ints) and sorted of it, at any length. -/
namespace DL
open PySem PySem.Spec L2
open PyProof.Rows hiding St
section
variable {P : Program} {w : World} {A : Around} {E : Value → Shared → Prop} {s : Shared}
/-- the empty set's object, as set() lays it -/
abbrev set0 (w : World) : Obj := { cls := .type "set", dict := none, data := .set #[] 0 (.fresh 0 0 (!w.params.followText "set-order")) }
theorem set_of_list {l : Addr} {items : Array Value} (ns : List Int) {Q : Value → Shared → Prop} (hh : A.handled = none) (hl : s.heap.IsList l items) (hit : IntsAre items.toList ns) (hb : ns.length + 1 < scanBound)
    (fin : ∀ (g : Heap) (tk c : Nat), SetR w g s.heap.objs.size (fun j => decide (j ∈ ns)) c → c ≤ ns.length → (∀ b o, s.heap.get? b = some o → g.get? b = some o) → Q (.ref s.heap.objs.size) { s with heap := g, toks := tk }) :
    wpAny (model P w) A (call (.type "set") [.ref l]) Q E s := by
  have isz : items.size = ns.length := by
    rw [← IntsAre.length hit, Array.length_toList]
  obtain ⟨c0, tl0, mro0⟩ := F.called_set.mro
  have made0 := F.called_set.made
  have sub0 := F.called_set.sub
  refine wpAny_call (codeAny_of_tree ?_)
  show wpAny _ _ (callAny (.type "set") _) _ _ _
  refine wpAny_pure ⟨Code.quiet_builtin _ (by decide +kernel), codeAny_builtin F.entry_type_call ?_⟩
  rw [Around.under_plain (weight_type_call_type "set" [.ref l] []) rfl]
  have nt := F.called_set.notType
  have cc := F.called_set.canCreate
  have tc := F.typeCall_set_1 (.ref l)
  repeat (any_goals (first | assumption | wp_step))
  refine codeAny_mono (code_set_led1 (.ref l) (E := E) (Q₁ := fun obj t => obj = .ref s.heap.objs.size ∧ t = { s with heap := s.heap.push (set0 w) }) ⟨rfl, rfl⟩) fun r t hr => ?_
  cases r with
  | error e => exact hr
  | ok flow =>
    cases flow with
    | ret obj =>
      obtain ⟨rfl, rfl⟩ := hr
      have at0 : (s.heap.push (set0 w)).get? s.heap.objs.size = some (set0 w) := Heap.get?_push_size _ rfl
      have ty0 : Shared.TypeIs { s with heap := s.heap.push (set0 w) } (.ref s.heap.objs.size) "set" := ⟨_, at0, rfl⟩
      have li := F.called_set.init.lookup
      have bi := F.called_set.init.bind (.ref s.heap.objs.size)
      repeat (any_goals (first | assumption | wp_step))
      refine codeAny_mono (codeAny_call_builtin (R := wants (fun r s2 => r = .none ∧ ∃ g tk c, s2 = { s with heap := g, toks := tk } ∧ SetR w g s.heap.objs.size (fun j => decide (j ∈ ns)) c ∧ c ≤ ns.length ∧
          (∀ b o, s.heap.get? b = some o → g.get? b = some o)) E) F.called_set.init.plain F.entry_set_init (check_set_init_1 ty0 ?_)) fun r2 s2 hr2 => ?_
      · obtain ⟨⟨kcls, kdict, kdata, kslots⟩, hol, hcl, nl, hdl⟩ := hl
        simp only at hcl hdl
        subst hcl; subst hdl
        have hol1 : (s.heap.push (set0 w)).get? l = some { cls := .type "list", dict := kdict, data := .seq items nl, slots := kslots } := Heap.get?_push_of_some _ hol
        have s1 := F.sub_list_set
        have s2 := F.sub_list_frozenset
        have ne0 : (Value.type "list" == Value.type "dict") = false := by decide
        have il : (s.heap.push (set0 w)).IsList l items := ⟨_, hol1, rfl, nl, rfl⟩
        unfold Builtin.«set.__init__» noKeywords Builtin.Frozenset.updateFrom
        generalize hPI : pyIter = PI
        wp_walk
        subst hPI
        refine wpAny_pyIter_list il ?_
        refine wpAny_bind (wpAny_runValue ?_)
        have lS : l < s.heap.objs.size := Heap.lt_size hol
        have h3 : A.in1.in1.in1.handled = none := by simp [hh]
        have neI : l ≠ (s.heap.push (set0 w)).objs.size := by
          rw [Heap.size_push]
          exact Nat.ne_of_lt (Nat.lt_succ_of_lt lS)
        have nf : s.heap.objs.size ∉ [(s.heap.push (set0 w)).objs.size, l] := by
          rw [Heap.size_push]
          simp only [List.mem_cons, List.mem_singleton, List.not_mem_nil, or_false, not_or]
          exact ⟨Nat.ne_of_lt (Nat.lt_succ_self _), Nat.ne_of_gt lS⟩
        have val : ∀ (i : Nat) (v : Value), items[i]? = some v → ∃ k t, ns[i]? = some k ∧ v = .int k t := fun i v hv => by
          have hi : i < ns.length := by
            rw [← isz]
            exact (Array.getElem?_eq_some_iff.mp hv).1
          obtain ⟨t, e⟩ := PyProof.Rows.IntsAre.int_at hit i v (by rw [Array.getElem?_toList]; exact hv)
          refine ⟨ns[i], t, List.getElem?_eq_getElem hi, ?_⟩
          rw [e, List.getD_eq_getElem?_getD, List.getElem?_eq_getElem hi] <;> rfl
        refine set_update_ints ((Walks.list h3 _ l neI items).toS) s.heap.objs.size
          nf ns isz hb val (items.size - 0) 0 _ (by omega) (Nat.zero_le _)
          ⟨⟨_, Heap.get?_push_size _ rfl, rfl, rfl⟩, (il.push _)⟩ ?a0 ?aR
        case a0 => exact ⟨0, Nat.le_refl 0, setR_new_at (Heap.get?_push_of_some _ at0)⟩
        case aR =>
          intro t c mv hc hS
          obtain ⟨g, g2, d2, k2, o2⟩ := t
          have eg : g2 = s.gens := mv.gens
          have ed : d2 = s.drawn := mv.drawn
          have eo : o2 = s.os := mv.os
          subst eg; subst ed; subst eo
          show wpAny _ _ _ _ _ _
          refine wpAny_pure ?_
          show wpAny _ _ (ret Value.none) _ _ _
          rw [isz] at hc
          refine wpAny_pure ⟨rfl, g, k2, c, rfl, hS, hc, fun b o e => ?_⟩
          have b0 : b < s.heap.objs.size := Heap.lt_size e
          have b2 : b ≠ (s.heap.push (set0 w)).objs.size := by
            rw [Heap.size_push]
            exact Nat.ne_of_lt (Nat.lt_succ_of_lt b0)
          exact mv.heap b o (by simp only [List.mem_cons, List.mem_singleton, List.not_mem_nil, or_false, not_or]; exact ⟨Nat.ne_of_lt b0, b2⟩) (Heap.get?_push_of_some _ (Heap.get?_push_of_some _ e))
      · cases r2 with
        | error e => exact hr2
        | ok flow2 =>
          cases flow2 with
          | ret r =>
            obtain ⟨rfl, g, tk, c, rfl, hS, hc, hk⟩ := hr2
            repeat (any_goals (first | assumption | wp_step))
            exact fin _ _ _ hS hc hk
          | _ => exact hr2.elim
    | _ => exact hr.elim
/-- sorted of a set of ints, however many -/
theorem sorted_setAny {a : Addr} {M : Int → Bool} {n : Nat} {Q : Value → Shared → Prop} (R : SetR w s.heap a M n) (hh : A.handled = none) (hz : n ≤ sizeLine)
    (fin : ∀ t p (out : List Value) (c : Nat) (ns : List Int), (∀ b o, s.heap.get? b = some o → t.heap.get? b = some o) → t.gens = s.gens → t.os = s.os → s.heap.objs.size ≤ p →
      t.heap.get? p = some (seqObj "list" out.toArray c) → IntsAre out ns → ns.Pairwise (· < ·) → (∀ k, k ∈ ns ↔ M k = true) → ns.length = n → Q (.ref p) t) :
    wpAny (model P w) A (call (.builtin "sorted") [.ref a]) Q E s := by
  obtain ⟨o, es, ep, t, ho, hex, hd, good, nd, hm, hb, hf, hn, hr, hl⟩ := R
  refine Calls.call_function_entry kind_sorted plain_sorted entry_sorted (args_sorted1 _) ?_
  unfold Builtin.«sorted»
  refine wpAny_bind (m := checkCount "sorted" 1 1 _) (wpAny_pure ?_)
  refine wpAny_bind (collect_set (A := A.in1) hh ⟨o, ho, hex.1, hd⟩ hf hb hr hl fun s1 vs keep zz gg oo pm => ?_)
  have vl : vs.length = n := by rw [pm.length_eq, List.length_map, Array.length_toList]; exact hn
  have hI : IntsAre vs (vs.map Builtin.Re.reRawOf) := ints_of vs fun v hv => by
    obtain ⟨e, he, q⟩ := List.mem_map.mp (pm.mem_iff.mp hv)
    obtain ⟨k, tk, h1, _⟩ := good e he
    exact ⟨k, tk, by rw [← q]; exact h1⟩
  have pk : (vs.map Builtin.Re.reRawOf).Perm (es.toList.map keyOf) := by
    have q := pm.map Builtin.Re.reRawOf
    rw [List.map_map] at q
    exact q
  refine wpAny_bind (wpAny_newList ?_ (by rw [vl]; exact hz))
  have hoL : (s1.heap.push (seqObj "list" vs.toArray 0)).get? s1.heap.objs.size = some (seqObj "list" vs.toArray 0) := Heap.get?_push_size _ rfl
  refine wpAny_bind (wpAny_holding (wpAny_call_entry slot_list_sort ⟨_, hoL, rfl⟩ entry_list_sort (SrtO.list_sort_ord SrtO.swo_int hoL (by rw [vl]; exact hz) (fun h2 => SrtO.ints_sortable hI h2) fun out a1 a2 => ⟨_, rfl, ?_⟩) (args_list_sort _)))
  obtain ⟨k1, k2, k3⟩ := SrtO.ints_out hI a1 a2
  obtain ⟨c, hc⟩ := PyProof.Rows.sortedHeap_at (vs := vs) (out := out.toArray) hoL
  have pn : (out.map SrtO.iv).Perm (es.toList.map keyOf) := k2.trans pk
  refine wpAny_pure ⟨_, rfl, fin _ s1.heap.objs.size out c (out.map SrtO.iv) (fun b u e => ?_) gg oo zz hc k1 (lt_of_le_nodup _ k3 (pn.nodup_iff.mpr nd)) (fun k => by rw [pn.mem_iff, ← hm k]) ?_⟩
  · have q := keep b u e
    have lt := Heap.lt_size q
    show (sortedHeap (s1.heap.push (seqObj "list" vs.toArray 0)) s1.heap.objs.size vs out.toArray).get? b = some u
    rw [sortedHeap_old (Nat.ne_of_lt lt) (by rw [size_push']; exact Nat.lt_succ_of_lt lt)]
    exact Heap.get?_push_of_some _ q
  · rw [pn.length_eq, List.length_map, Array.length_toList]; exact hn
end
section
variable {X : Cx} {T : Tab} {EE : XX} {e : Expr} {f : En → M D} {p p2 pos pos2 : Pos}
def setSortD (d : D) (S : Cells) : Option (List D) := match (seqL S d).bind ints? with
  | some ns => if ns.length + 1 < scanBound then some ((setSort ns).map .int) else none
  | none => none
/-- sorted(set(xs)), xs ints -/
theorem evL_sortedSet (hc : X.calm = true) (hg : Gl X "sorted") (hm : X.mg "sorted" = none) (hv : bootBuiltins "sorted" = some (.builtin "sorted")) (hg2 : Gl X "set") (hm2 : X.mg "set" = none) (hv2 : bootBuiltins "set" = some (.type "set")) (he : EvE X T EE e f)
    (hs : starEach [.Call (.Name "set" p2) [e] [] pos2] X.env = (false, eval (.Call (.Name "set" p2) [e] [] pos2) X.env) :: starEach [] X.env := by rfl) (hs2 : starEach [e] X.env = (false, eval e X.env) :: starEach [] X.env := by rfl) :
    EvL X T EE (.Call (.Name "sorted" p) [.Call (.Name "set" p2) [e] [] pos2] [] pos) (fun ρ => M.bind (f ρ) fun d => M.opt (setSortD d)) := by
  have cs : CallR X (.type "set") (fun vs H Q => ∃ (a : Addr) (ns : List Int), vs = [.ref a] ∧ SqL X.K H a (ns.map V.int) ∧ ns.length + 1 < scanBound ∧ ∀ q c, H q = none → c ≤ ns.length → Q (.ref q) (upd H q (SetO X.w q (fun j => decide (j ∈ ns)) c))) := by
    intro pins s σ H vs us Q I rv h
    obtain ⟨a, ns, rfl, s1, hb, q⟩ := h
    rw [Vals.ref1 rv]
    obtain ⟨its, rv2, pl, hz⟩ := I.list s1
    refine set_of_list ns (I.ok.hd hc) pl.isList (by simpa using rv2.ints) hb fun g tk c R hcl keep => ?_
    have np : H s.heap.objs.size = none := I.hok.fresh (Nat.le_refl _)
    exact ⟨.ref _, _, I.laid (t' := tk) keep (Nat.le_refl _) (setO_new R), rfl, q _ c np hcl⟩
  have so : CallR X (.builtin "sorted") (fun vs H Q => ∃ (a : Addr) (M : Int → Bool) (n : Nat), vs = [V.ref a] ∧ H a = some (SetO X.w a M n) ∧ n ≤ sizeLine ∧
      ∀ (ns : List Int) (q : Addr), ns.Pairwise (· < ·) → (∀ k : Int, k ∈ ns ↔ M k = true) → ns.length = n → H q = none → Q (.ref q) (upd H q (.lst (ns.map V.int)))) := by
    intro pins s σ H vs us Q I r h
    obtain ⟨a, M, n, rfl, ha, hz, q⟩ := h
    rw [Vals.ref1 r]
    refine sorted_setAny (setO_get I ha) (I.ok.hd hc) hz fun t p out c ns keep gg oo hp hg hi hs hm hl => ?_
    have hn : H p = none := I.hok.fresh hp
    have J : Inv X pins σ (upd H p (.lst (ns.map V.int))) { s with heap := t.heap, gens := t.gens, drawn := t.drawn, toks := t.toks } :=
      I.call (ch := []) (Un.laid keep hp hn) (I.hok.laid keep hp ⟨by rw [List.length_map, hl]; exact hz, out, c, vals_of_ints hi, hg⟩) (by rw [gg]; exact I.bare) (fun _ z => nomatch z)
    have e : t = { s with heap := t.heap, gens := t.gens, drawn := t.drawn, toks := t.toks } := by
      cases t
      cases s
      cases oo
      rfl
    rw [e]
    exact ⟨.ref p, _, J, rfl, q ns p hs hm hl hn⟩
  have pset := pe_callTy (p := p2) (pos := pos2) cs hg2 hm2 hv2 (pa_cons he.pe pa_nil hs2) (by decide) (by decide) hs2 rfl
  refine ⟨(pe_callB (p := p) (pos := pos) so hg hm hv (pa_cons pset pa_nil hs) (by decide) (by decide) hs rfl).dimp fun σ H Q h => ?_⟩
  refine (show dG X.K T EE (repE X.K T) f σ H _ from ?_)
  obtain ⟨_, _, _, _, h1, h2, h3⟩ := bindD (rep := repE X.K T) h
  refine ⟨_, _, _, _, h1, h2, h3.imp fun v H1 ⟨d, γ1, hid, S1, ρ, q1, q3, q4, q5⟩ => ?_⟩
  obtain ⟨l, er, w5⟩ := opt_ok q5
  unfold setSortD at er
  split at er
  · rename_i ns en
    split at er
    · rename_i hb
      cases er
      cases eq : seqL S1 d with
      | none => rw [eq] at en; cases en
      | some l0 =>
        rw [eq] at en
        obtain ⟨a, ws, rfl, s1, z, g⟩ := seqL_ok q1 q4 eq
        obtain ⟨k1, k2⟩ := ints?_rep g en
        subst k1
        refine ⟨a, ns, rfl, s1, hb, fun q c np hc => ?_⟩
        have zn : ns.length ≤ sizeLine := by
          rw [k2, List.length_map] at z
          exact z
        refine ⟨q, _, c, rfl, upd_same, Nat.le_trans hc zn, fun ms p2 hs hm hl hp2 => ?_⟩
        have em : ms = setSort ns := strict_uniq hs (setSort_sorted ns) fun k => by
          rw [hm k, setSort_mem]
          simp
        subst em
        obtain ⟨a1, a2, a3⟩ := q1.lay np (SetO X.w q (fun j => decide (j ∈ ns)) c)
        exact w5 γ1 _ _ a1 a2 ⟨by rw [List.length_map, hl]; exact Nat.le_trans hc zn, rep_ints _⟩ p2 hp2
    · cases er
  · cases er
end
end DL
end
section
set_option maxHeartbeats 4000000
/-! DLj: calls of the text's defs by name; short words for what is computed. -/
namespace DL
open PySem PySem.Spec L2
open PyProof.Rows hiding St
/-- a def of the module, by name, with its promise -/
def FnB (P : Program) (w : World) (K : PySem.W.Frag) (mg : Str → Option Value) (base : Heap) (k : Nat) (x : Str) (ps : List Str) (sp : Sp) : Prop :=
  ∃ fd, PySem.W.keepIn K (.ref (He.ga K x)) = true ∧ mg x = some (.ref (He.ga K x)) ∧ Binds K fd ps [] ∧ FnG P w K mg base k (He.ga K x) fd ps sp
section
variable {P : Program} {w : World} {K : PySem.W.Frag} {mg : Str → Option Value} {base : Heap} {T : Tab}
theorem fnB {x : Str} {k : Nat} {ps : List Str} {sp : Sp} {params : Arguments} {body : List Stmt} {scope : Scope} {dvs : List V} {kws : List (Str × V)}
    (F : ∃ fd, FunD K x x params body scope dvs kws (He.ga K x) fd) (hm : mg x = some (.ref (He.ga K x))) (hb : ∀ fd, FunD K x x params body scope dvs kws (He.ga K x) fd → Binds K fd ps [])
    (h : ∀ fd, FunD K x x params body scope dvs kws (He.ga K x) fd → FnG P w K mg base k (He.ga K x) fd ps sp) : FnB P w K mg base k x ps sp := by
  obtain ⟨fd, F⟩ := F
  exact ⟨fd, F.kp, hm, hb fd F, h fd F⟩
end
section
variable {X : Cx} {T : Tab} {EE : XX} {j k n : Nat} {x : Str} {ps : List Str} {p pos : Pos} {e : Expr} {es : List Expr} {fs : En → M (List D)}
theorem ev_callB {g : List D → M D} (F : FnB X.prog X.w X.K X.mg X.base j x ps (spD X.K T n g)) (hr : Room k X.A) (hj : j ≤ k) (nr : NoRepr X.A) (hg : Gl X x)
    (ha : EvA X T EE (e :: es) fs) (hdb : (x == ("__debug__" : Str)) = false := by decide) (he : starEach (e :: es) X.env = (false, eval e X.env) :: starEach es X.env := by rfl) (hpl : (backTo pos (starEach es X.env)).any (·.1) = false := by rfl) :
    EvE X T EE (.Call (.Name x p) (e :: es) [] pos) (fun ρ => M.bind (fs ρ) fun ds => calmM (arity n g ds)) := by
  obtain ⟨fd, hk, hm, hb, F⟩ := F
  exact ev_call F (hr.mono hj) nr hg hm hk hb ha hdb he hpl
theorem evL_callB {g : List D → M (List D)} (F : FnB X.prog X.w X.K X.mg X.base j x ps (spL X.K T n g)) (hr : Room k X.A) (hj : j ≤ k) (nr : NoRepr X.A) (hg : Gl X x)
    (ha : EvA X T EE (e :: es) fs) (hdb : (x == ("__debug__" : Str)) = false := by decide) (he : starEach (e :: es) X.env = (false, eval e X.env) :: starEach es X.env := by rfl) (hpl : (backTo pos (starEach es X.env)).any (·.1) = false := by rfl) :
    EvL X T EE (.Call (.Name x p) (e :: es) [] pos) (fun ρ => M.bind (fs ρ) fun ds => calmM (arity n g ds)) := by
  obtain ⟨fd, hk, hm, hb, F⟩ := F
  exact evL_call F (hr.mono hj) nr hg hm hk hb ha hdb he hpl
end
/-! isinstance of the usual classes -/
def tabInt (n : String) : Bool := n == "int" || n == "bool"
def tabIs (m : String) (n : String) : Bool := n == m
theorem hk_int : ∀ a ∈ tyNames, kitB a "int" = some (tabInt a) := by decide +kernel
theorem hk_bool : ∀ a ∈ tyNames, kitB a "bool" = some (tabIs "bool" a) := by decide +kernel
theorem hk_str : ∀ a ∈ tyNames, kitB a "str" = some (tabIs "str" a) := by decide +kernel
theorem hk_list : ∀ a ∈ tyNames, kitB a "list" = some (tabIs "list" a) := by decide +kernel
theorem hk_tuple : ∀ a ∈ tyNames, kitB a "tuple" = some (tabIs "tuple" a) := by decide +kernel
/-! short words -/
def b2 (op : D → D → Cells → Option D) (a b : M D) : M D := M.bind a fun x => M.bind b fun y => M.opt (op x y)
def b2L (op : D → D → Cells → Option (List D)) (a b : M D) : M (List D) := M.bind a fun x => M.bind b fun y => M.opt (op x y)
def b1 (op : D → Cells → Option D) (a : M D) : M D := M.bind a fun x => M.opt (op x)
def b2T (op : D → D → Cells → Option D) (a b : M D) : M Bool := M.bind a fun x => M.bind b fun y => M.opt (fun S => (op x y S).bind asB)
def chE (op op' : D → D → Cells → Option D) (a b c : M D) : M D := M.bind a fun x => M.bind b fun y => M.bind (M.opt (fun S => (op x y S).bind asB)) fun k => if k = true then (M.bind c fun z => M.opt (op' y z)) else kon (.bl false)
def notT (a : M Bool) : M Bool := M.bind a fun c S => .ok (!c) S
def valT (a : M D) : M Bool := M.bind a fun x => M.opt (truD x)
def notE (a : M D) : M D := M.bind a fun d => M.bind (M.opt (fun _ => asB d)) fun c => kon (.bl (!c))
def ifE (c : M Bool) (a b : M D) : M D := M.bind c fun k => if k = true then a else b
def ifL (c : M Bool) (a b : M (List D)) : M (List D) := M.bind c fun k => if k = true then a else b
def nilA : M (List D) := fun S => .ok [] S
def tupE (a : M (List D)) : M D := M.bind a fun l => M.opt fun _ => if l.length ≤ sizeLine then some (.tup l) else none
def lstE (a : M (List D)) : M (List D) := M.bind a fun l => M.opt fun _ => if l.length ≤ sizeLine then some l else none
def frzE (a : M (List D)) : M D := M.bind a fun l => kon (.lst l)
def celE (a : M (List D)) : M D := M.bind a newC
def cbE (op : List D → Cells → Option D) (a : M (List D)) : M D := M.bind a fun ds => M.opt (op ds)
def cbL (op : List D → Cells → Option (List D)) (a : M (List D)) : M (List D) := M.bind a fun ds => M.opt (op ds)
def callE (n : Nat) (g : List D → M D) (a : M (List D)) : M D := M.bind a fun ds => calmM (arity n g ds)
def callL (n : Nat) (g : List D → M (List D)) (a : M (List D)) : M (List D) := M.bind a fun ds => calmM (arity n g ds)
def noO : M (Option Int) := fun S => .ok none S
def smO (a : M D) : M (Option Int) := M.bind a fun d => M.opt fun _ => partD d
def slE (a : M D) (i j : M (Option Int)) : M D := M.bind a fun d => M.bind i fun i => M.bind j fun j => M.opt (slD d i j)
def slLL (a : M D) (i j : M (Option Int)) : M (List D) := M.bind a fun d => M.bind i fun i => M.bind j fun j => M.opt (slL d i j)
def revL (a : M D) : M (List D) := M.bind a fun d => M.opt fun S => (seqL S d).map List.reverse
def stepL (a k : M D) : M (List D) := M.bind a fun d => M.bind k fun y => M.opt (sliceStepD d y)
def isiE (tab : String → Bool) (a : M D) : M D := M.bind a fun d => M.opt (isiD tab d)
def setsL (a : M D) : M (List D) := M.bind a fun d => M.opt (setSortD d)
def lrgL (a : M (List D)) : M (List D) := M.bind a fun l => M.opt fun _ => rangeA l
def mthE (tn : String) (op : D → List D → Cells → Option (D × Cells)) (o : M D) (a : M (List D)) : M D := M.bind o fun d => M.bind (M.opt (isTy tn d)) fun _ => M.bind a fun ds => M.chg (op d ds)
def mth0 (tn : String) (op : D → List D → Cells → Option (D × Cells)) (o : M D) : M D := M.bind o fun d => M.bind (M.opt (isTy tn d)) fun _ => M.chg (op d [])
def itS (a : M D) : M (List D) := M.bind a fun d => M.opt fun _ => itemsD d
def itR1 (a : M (List D)) : M (List D) := M.bind a fun l => M.opt fun _ => range1 l
def itR2 (a : M (List D)) : M (List D) := M.bind a fun l => M.opt fun _ => range2 l
def itR3 (a : M (List D)) : M (List D) := M.bind a fun l => M.opt fun _ => range3 l
def itZ (a : M (List D)) : M (List D) := M.bind a fun l => M.opt fun _ => zipA l
def itN (a : M (List D)) : M (List D) := M.bind a fun l => M.opt fun _ => enumA l
def lcL (i : M (List D)) (p : Pat) (t : En → M Bool) (e : En → M D) (ρ : En) (vs : List Nat) : M (List D) := M.bind i fun items => compD p t e (wipeD ρ vs) items
/-! statements -/
def setS (i : Nat) (f : En → M D) : SM := bindS f fun d ρ S => .nx (ρ.set i (some d)) S
def parS (i j : Nat) (f : En → M (List D)) : SM := bindS f fun l ρ S => match l with
  | [d, e] => .nx ((ρ.set i (some d)).set j (some e)) S
  | _ => .stuck
def augS (i : Nat) (op : D → D → Cells → Option D) (f : En → M D) : SM := bindS (fun ρ => M.bind (rd ρ i) fun x => M.bind (f ρ) fun y => M.opt (op x y)) fun d ρ S => .nx (ρ.set i (some d)) S
def stoS (f fo fi : En → M D) : SM := bindS f fun y => bindS fo fun d => bindS fi fun k ρ S => match setAtD d k y S with
  | some S' => .nx ρ S'
  | none => .stuck
def expS (f : En → M D) : SM := bindS f fun _ => nxS
def retS (f : En → M D) : SM := bindS f fun d _ S => .rt d S
def retNS : SM := fun _ S => .rt .non S
def ifS (c : En → M Bool) (F G : SM) : SM := bindS c fun k => if k = true then F else G
def forS (f : En → M (List D)) (p : Pat) (B : SM) : SM := bindS f fun items => forD p B items
def stkS : SM := fun _ _ => .stuck
def bkS : SM := fun ρ S => .bk ρ S
def ctS : SM := fun ρ S => .ct ρ S
end DL
end
section
set_option maxHeartbeats 4000000
/-! DLk: x in a list, list.index. -/
namespace DL
open PySem PySem.Spec L2
open PyProof.Rows hiding St
section
variable {X : Cx} {T : Tab}
theorem hu65 {k : Nat} {A : Around} (r : Room k A) : A.units + 65 < cLine := by have := r.un; omega
def inP (d1 d2 : D) (S : Cells) : Option Bool := match vw S d1, vw S d2 with
  | some p, some (.list zs) => if SeqAt.shaped p = true ∧ SeqAt.shaped (.list zs) = true then some (zs.any fun z => PyData.eqv z p) else none
  | _, _ => none
theorem inP_some {d1 d2 : D} {S : Cells} {b : Bool} (e : inP d1 d2 S = some b) : ∃ p zs, vw S d1 = some p ∧ vw S d2 = some (.list zs) ∧ SeqAt.shaped p = true ∧ SeqAt.shaped (.list zs) = true ∧ b = zs.any fun z => PyData.eqv z p := by
  unfold inP at e
  split at e
  · rename_i p zs h1 h2
    split at e
    · rename_i hs
      cases e
      exact ⟨p, zs, h1, h2, hs.1, hs.2, rfl⟩
    · cases e
  · cases e
def dIn (d1 d2 : D) (S : Cells) : Option D := (inP d1 d2 S).map .bl
def dNotIn (d1 d2 : D) (S : Cells) : Option D := (inP d1 d2 S).map fun b => .bl (!b)
theorem op_dIn (hu : X.A.units + 65 < cLine) : OpR X (compareOp .In) (rO X.K T dIn) := (op_inD hu).dimp fun x y H Q h => by
  obtain ⟨γ, hid, S, d1, d2, d, hold, r1, r2, e, q⟩ := h
  cases eb : inP d1 d2 S with
  | none => unfold dIn at e; rw [eb] at e; cases e
  | some b =>
    unfold dIn at e
    rw [eb] at e
    cases e
    obtain ⟨p, zs, h1, h2, h3, h4, rfl⟩ := inP_some eb
    exact ⟨p, zs, vw_ok hold r1 h1, vw_ok hold r2 h2, h3, h4, q.same hold (.bl _)⟩
theorem op_dNotIn (hu : X.A.units + 65 < cLine) : OpR X (compareOp .NotIn) (rO X.K T dNotIn) := (op_notInD hu).dimp fun x y H Q h => by
  obtain ⟨γ, hid, S, d1, d2, d, hold, r1, r2, e, q⟩ := h
  cases eb : inP d1 d2 S with
  | none => unfold dNotIn at e; rw [eb] at e; cases e
  | some b =>
    unfold dNotIn at e
    rw [eb] at e
    cases e
    obtain ⟨p, zs, h1, h2, h3, h4, rfl⟩ := inP_some eb
    exact ⟨p, zs, vw_ok hold r1 h1, vw_ok hold r2 h2, h3, h4, q.same hold (.bl _)⟩
def ixOf (d y : D) (S : Cells) : Option Nat := match vw S d, vw S y with
  | some (.list zs), some p => if SeqAt.shaped (.list zs) = true ∧ SeqAt.shaped p = true then zs.findIdx? fun z => PyData.eqv z p else none
  | _, _ => none
def mIndex (d : D) (ds : List D) (S : Cells) : Option (D × Cells) := match ds with
  | [y] => (ixOf d y S).map fun j => (.int (j : Nat), S)
  | _ => none
theorem mt_mIndex (hu : X.A.units + 65 < cLine) : MtR X "list.index" (rMt X.K T mIndex) := by
  intro pins s σ H x vs v us Q I rx rv h
  refine mt_indexD hu pins s σ H x vs v us Q I rx rv ?_
  obtain ⟨γ, hid, S, d, ds, d', S', hold, r1, r2, e, q⟩ := h
  unfold mIndex at e
  split at e
  · rename_i y
    cases ej : ixOf d y S with
    | none => rw [ej] at e; cases e
    | some j =>
      rw [ej] at e
      cases e
      unfold ixOf at ej
      split at ej
      · rename_i zs p h1 h2
        split at ej
        · rename_i hs
          obtain ⟨w, rfl, ry⟩ := rep1 r2
          have a1 := vw_ok hold r1 h1
          have a2 := vw_ok hold ry h2
          obtain ⟨hj, hz, hno⟩ := List.findIdx?_eq_some_iff_getElem.mp ej
          have hr : ∃ a, x = .ref a := by cases a1 <;> exact ⟨_, rfl⟩
          obtain ⟨a, rfl⟩ := hr
          refine ⟨a, w, p, zs, j, zs[j], rfl, rfl, a1, a2, hs.1, hs.2, List.getElem?_eq_getElem hj, hz, fun m z' hm hz' => ?_, q.same hold (.int _)⟩
          obtain ⟨hm', rfl⟩ := List.getElem?_eq_some_iff.mp hz'
          have := hno m hm
          simpa using this
        · cases ej
      · cases ej
  · cases e
end
/-! a < b < c as a test -/
section
variable {X : Cx} {T : Tab} {EE : XX} {a b c : Expr} {fa fb fc : En → M D} {pos : Pos} {o o' : CmpOp} {op op' : D → D → Cells → Option D}
theorem chain_read {σ : St} {H : Hp} {Q : VK} (h : dE X.K T EE (fun ρ => chE op op' (fa ρ) (fb ρ) (fc ρ)) σ H Q) : tChain (rO X.K T op) (rO X.K T op') (dE X.K T EE fa) (dE X.K T EE fb) (dE X.K T EE fc) σ H Q := by
  have h : dE X.K T EE (fun ρ => M.bind (fa ρ) fun x => M.bind (fb ρ) fun y => M.bind (M.opt (fun S => (op x y S).bind asB)) fun k => if k = true then (M.bind (fc ρ) fun z => M.opt (op' y z)) else kon (.bl false)) σ H Q := h
  refine (show dG X.K T EE (repE X.K T) fa σ H _ from ?_)
  obtain ⟨γ, hid, S, ρ, hold, env, h⟩ := h
  obtain ⟨_, _, _, _, h1, h2, h3⟩ := bindR (rep := repE X.K T) hold env h
  refine ⟨_, _, _, _, h1, h2, h3.imp fun x H1 ⟨d1, γ1, S1, q1, q2, q3, q4, q5⟩ => ?_⟩
  obtain ⟨_, _, _, _, h1, h2, h3⟩ := bindR (rep := repE X.K T) q1 q3 q5
  refine ⟨_, _, _, _, h1, h2, h3.imp fun y H2 ⟨d2, γ2, S2, w1, w2, w3, w4, w5⟩ => ?_⟩
  cases q : op d1 d2 S2 with
  | none =>
    rw [bind_of_stuck (opt_none (by rw [q]; rfl))] at w5
    exact w5.elim
  | some d =>
    cases q2 : asB d with
    | none =>
      rw [bind_of_stuck (opt_none (by rw [q]; exact q2))] at w5
      exact w5.elim
    | some k =>
      rw [bind_of_ok (opt_some (a := k) (by rw [q]; exact q2))] at w5
      refine ⟨γ2, hid, S2, d1, d2, d, w1, w2.rp q4, w4, q, fun γ' H' v c1 c2 c3 => ?_⟩
      obtain ⟨rfl, rfl⟩ := asB_ok c3 q2
      refine ⟨k, rfl, ?_⟩
      have env3 := w3.mono c2.pre (c2.sameH hid)
      have w6 := w5.base c2
      cases hk : k with
      | true =>
        rw [if_pos hk] at w6
        rw [if_pos rfl]
        obtain ⟨_, _, _, _, h1, h2, h3⟩ := bindR (rep := repE X.K T) (f := fc) c1 env3 w6
        refine ⟨_, _, _, _, h1, h2, h3.imp fun z H3 ⟨d3, γ3, S3, u1, u2, u3, u4, u5⟩ => ?_⟩
        obtain ⟨d', e, u5⟩ := opt_ok u5
        exact ⟨γ3, hid, S3, d2, d3, d', u1, u2.rp (c2.rp w4), u4, e, u5⟩
      | false =>
        rw [if_neg (by rw [hk]; exact Bool.false_ne_true)] at w6
        rw [if_neg Bool.false_ne_true]
        exact w6 γ' H' _ c1 (Ext.refl _ _ _) (.bl _)
theorem evt_chain (ho : OpR X (compareOp o) (rO X.K T op)) (ho' : OpR X (compareOp o') (rO X.K T op')) (ha : EvE X T EE a fa) (hb : EvE X T EE b fb) (hc : EvE X T EE c fc) (hm : lastMarks [o, o'] [b, c] = false := by rfl) :
    EvT X T EE (.Compare a [o, o'] [b, c] pos) (fun ρ => M.bind (chE op op' (fa ρ) (fb ρ) (fc ρ)) fun x => M.opt fun _ => asB x) := by
  refine ⟨(pt_chain ho ho' ha.pe hb.pe hc.pe hm).dimp fun σ H Q h => chain_read ?_⟩
  obtain ⟨γ, hid, S, ρ, hold, env, h⟩ := h
  obtain ⟨_, _, _, _, h1, h2, h3⟩ := bindR (rep := repE X.K T) (f := fun ρ => chE op op' (fa ρ) (fb ρ) (fc ρ)) hold env h
  refine ⟨_, _, _, _, h1, h2, h3.imp fun x H1 ⟨d1, γ1, S1, q1, q2, q3, q4, q5⟩ => ?_⟩
  obtain ⟨k, e, w⟩ := opt_ok q5
  obtain ⟨rfl, rfl⟩ := asB_ok q4 e
  exact ⟨k, rfl, w γ1 H1 k q1 (Ext.refl _ _ _) rfl⟩
def chT (op op' : D → D → Cells → Option D) (a b c : M D) : M Bool := M.bind (chE op op' a b c) fun x => M.opt fun _ => asB x
end
end DL
end
section
set_option maxHeartbeats 4000000
/-! DLm: reckoning with readings. -/
namespace DL
open PySem PySem.Spec L2
open PyProof.Rows hiding St
section
variable {α β : Type} {S S1 S2 S3 : Cells} {ρ : En}
theorem bd_ok {f : M α} {g : α → M β} {a : α} {r : R β} (h : f S = .ok a S1) (h2 : g a S1 = r) : M.bind f g S = r := by unfold M.bind; rw [h]; exact h2
theorem op_ok {f : Cells → Option α} {a : α} (h : f S = some a) : M.opt f S = .ok a S := by unfold M.opt; rw [h]
theorem b2_ok {op : D → D → Cells → Option D} {a b : M D} {x y z : D} (h1 : a S = .ok x S1) (h2 : b S1 = .ok y S2) (h3 : op x y S2 = some z) : b2 op a b S = .ok z S2 := bd_ok h1 (bd_ok h2 (op_ok h3))
theorem b2L_ok {op : D → D → Cells → Option (List D)} {a b : M D} {x y : D} {z : List D} (h1 : a S = .ok x S1) (h2 : b S1 = .ok y S2) (h3 : op x y S2 = some z) : b2L op a b S = .ok z S2 := bd_ok h1 (bd_ok h2 (op_ok h3))
theorem b1_ok {op : D → Cells → Option D} {a : M D} {x z : D} (h1 : a S = .ok x S1) (h3 : op x S1 = some z) : b1 op a S = .ok z S1 := bd_ok h1 (op_ok h3)
theorem b2T_ok {op : D → D → Cells → Option D} {a b : M D} {x y : D} {z : Bool} (h1 : a S = .ok x S1) (h2 : b S1 = .ok y S2) (h3 : op x y S2 = some (.bl z)) : b2T op a b S = .ok z S2 := bd_ok h1 (bd_ok h2 (op_ok (by show (op x y S2).bind asB = _; rw [h3]; rfl)))
theorem cons_ok {x : M D} {y : M (List D)} {d : D} {l : List D} (h1 : x S = .ok d S1) (h2 : y S1 = .ok l S2) : consM x y S = .ok (d :: l) S2 := bd_ok h1 (bd_ok h2 rfl)
theorem cb_ok {op : List D → Cells → Option D} {a : M (List D)} {l : List D} {z : D} (h1 : a S = .ok l S1) (h2 : op l S1 = some z) : cbE op a S = .ok z S1 := bd_ok h1 (op_ok h2)
theorem cbL_ok {op : List D → Cells → Option (List D)} {a : M (List D)} {l : List D} {z : List D} (h1 : a S = .ok l S1) (h2 : op l S1 = some z) : cbL op a S = .ok z S1 := bd_ok h1 (op_ok h2)
theorem tup_ok {a : M (List D)} {l : List D} (h1 : a S = .ok l S1) (h2 : l.length ≤ sizeLine) : tupE a S = .ok (.tup l) S1 := bd_ok h1 (op_ok (if_pos h2))
theorem lst_ok {a : M (List D)} {l : List D} (h1 : a S = .ok l S1) (h2 : l.length ≤ sizeLine) : lstE a S = .ok l S1 := bd_ok h1 (op_ok (if_pos h2))
theorem frz_ok {a : M (List D)} {l : List D} (h1 : a S = .ok l S1) : frzE a S = .ok (.lst l) S1 := bd_ok h1 rfl
theorem cel_ok {a : M (List D)} {l : List D} (h1 : a S = .ok l S1) (h2 : flatL l = true) : celE a S = .ok (.ref S1.length) (S1 ++ [⟨true, .lst l⟩]) := bd_ok h1 (by unfold newC M.chg; simp only [h2, if_true])
theorem ar_ok {n : Nat} {g : List D → M α} {l : List D} {z : α} (hn : l.length = n) (h2 : g l S = .ok z S1) : calmM (arity n g l) S = .ok z S1 := calm_of (by unfold arity; rw [if_pos hn]; exact h2)
theorem call_ok {n : Nat} {g : List D → M D} {a : M (List D)} {l : List D} {z : D} (h1 : a S = .ok l S1) (h2 : g l S1 = .ok z S2) (hn : l.length = n := by rfl) : callE n g a S = .ok z S2 := bd_ok h1 (ar_ok hn h2)
theorem callL_ok {n : Nat} {g : List D → M (List D)} {a : M (List D)} {l : List D} {z : List D} (h1 : a S = .ok l S1) (h2 : g l S1 = .ok z S2) (hn : l.length = n := by rfl) : callL n g a S = .ok z S2 := bd_ok h1 (ar_ok hn h2)
theorem val_ok {a : M D} {d : D} {b : Bool} (h1 : a S = .ok d S1) (h2 : truD d S1 = some b) : valT a S = .ok b S1 := bd_ok h1 (op_ok h2)
theorem not_ok {a : M Bool} {b : Bool} (h1 : a S = .ok b S1) : notT a S = .ok (!b) S1 := bd_ok h1 rfl
theorem itS_ok {a : M D} {d : D} {l : List D} (h1 : a S = .ok d S1) (h2 : itemsD d = some l) : itS a S = .ok l S1 := bd_ok h1 (op_ok h2)
theorem and_t {x y : M Bool} {r : R Bool} (h1 : x S = .ok true S1) (h2 : y S1 = r) : andM x y S = r := bd_ok h1 h2
theorem and_f {x y : M Bool} (h1 : x S = .ok false S1) : andM x y S = .ok false S1 := bd_ok h1 rfl
theorem or_t {x y : M Bool} (h1 : x S = .ok true S1) : orM x y S = .ok true S1 := bd_ok h1 rfl
theorem or_f {x y : M Bool} {r : R Bool} (h1 : x S = .ok false S1) (h2 : y S1 = r) : orM x y S = r := bd_ok h1 h2
theorem andE_t {x y : M D} {r : R D} (h1 : x S = .ok (.bl true) S1) (h2 : y S1 = r) : andE x y S = r := bd_ok h1 (bd_ok (op_ok rfl) h2)
theorem andE_f {x y : M D} (h1 : x S = .ok (.bl false) S1) : andE x y S = .ok (.bl false) S1 := bd_ok h1 (bd_ok (op_ok rfl) rfl)
theorem orE_t {x y : M D} (h1 : x S = .ok (.bl true) S1) : orE x y S = .ok (.bl true) S1 := bd_ok h1 (bd_ok (op_ok rfl) rfl)
theorem orE_f {x y : M D} {r : R D} (h1 : x S = .ok (.bl false) S1) (h2 : y S1 = r) : orE x y S = r := bd_ok h1 (bd_ok (op_ok rfl) h2)
theorem ifE_t {c : M Bool} {a b : M D} {r : R D} (h1 : c S = .ok true S1) (h2 : a S1 = r) : ifE c a b S = r := bd_ok h1 h2
theorem ifE_f {c : M Bool} {a b : M D} {r : R D} (h1 : c S = .ok false S1) (h2 : b S1 = r) : ifE c a b S = r := bd_ok h1 h2
theorem mth_ok {tn : String} {op : D → List D → Cells → Option (D × Cells)} {o : M D} {a : M (List D)} {d z : D} {l : List D} (h1 : o S = .ok d S1) (h2 : isTy tn d S1 = some ()) (h3 : a S1 = .ok l S2) (h4 : op d l S2 = some (z, S3)) : mthE tn op o a S = .ok z S3 :=
  bd_ok h1 (bd_ok (op_ok h2) (bd_ok h3 (by unfold M.chg; rw [h4])))
/-! statements -/
theorem bS_ok {f : En → M α} {g : α → SM} {a : α} {o : Out} (h1 : f ρ S = .ok a S1) (h2 : g a ρ S1 = o) : bindS f g ρ S = o := by unfold bindS; rw [h1]; exact h2
theorem sq_nx {F G : SM} {ρ1 : En} {o : Out} (h1 : F ρ S = .nx ρ1 S1) (h2 : G ρ1 S1 = o) : seqS F G ρ S = o := by unfold seqS; rw [h1]; exact h2
theorem sq_rt {F G : SM} {d : D} (h1 : F ρ S = .rt d S1) : seqS F G ρ S = .rt d S1 := by unfold seqS; rw [h1]
theorem set_ok {i : Nat} {f : En → M D} {d : D} (h1 : f ρ S = .ok d S1) : setS i f ρ S = .nx (ρ.set i (some d)) S1 := bS_ok h1 rfl
theorem par_ok {i j : Nat} {f : En → M (List D)} {d e : D} (h1 : f ρ S = .ok [d, e] S1) : parS i j f ρ S = .nx ((ρ.set i (some d)).set j (some e)) S1 := bS_ok h1 rfl
theorem aug_ok {i : Nat} {op : D → D → Cells → Option D} {f : En → M D} {x y z : D} (h0 : rd ρ i S = .ok x S) (h1 : f ρ S = .ok y S1) (h2 : op x y S1 = some z) : augS i op f ρ S = .nx (ρ.set i (some z)) S1 := bS_ok (bd_ok h0 (bd_ok h1 (op_ok h2))) rfl
theorem exp_ok {f : En → M D} {d : D} (h1 : f ρ S = .ok d S1) : expS f ρ S = .nx ρ S1 := bS_ok h1 rfl
theorem ret_ok {f : En → M D} {d : D} (h1 : f ρ S = .ok d S1) : retS f ρ S = .rt d S1 := bS_ok h1 rfl
theorem if_t {c : En → M Bool} {F G : SM} {o : Out} (h1 : c ρ S = .ok true S1) (h2 : F ρ S1 = o) : ifS c F G ρ S = o := bS_ok h1 h2
theorem if_f {c : En → M Bool} {F G : SM} {o : Out} (h1 : c ρ S = .ok false S1) (h2 : G ρ S1 = o) : ifS c F G ρ S = o := bS_ok h1 h2
theorem for_ok {f : En → M (List D)} {p : Pat} {B : SM} {l : List D} {o : Out} (h1 : f ρ S = .ok l S1) (h2 : forD p B l ρ S1 = o) : forS f p B ρ S = o := bS_ok h1 h2
theorem sto_ok {f fo fi : En → M D} {y d k : D} {S4 : Cells} (h1 : f ρ S = .ok y S1) (h2 : fo ρ S1 = .ok d S2) (h3 : fi ρ S2 = .ok k S3) (h4 : setAtD d k y S3 = some S4) : stoS f fo fi ρ S = .nx ρ S4 := bS_ok h1 (bS_ok h2 (bS_ok h3 (by simp only [h4])))
/-! a def's end -/
theorem body_rt {N : Nat} {B : SM} {ds : List D} {d : D} (h : B (startD N ds) S = .rt d S1) (hf : d.flat = true) (hl : S1.take S.length = S) : bodyD N B ds S = .ok d S := by
  unfold bodyD
  rw [h]
  show retD S.length S1 (resv S.length S1 d) = _
  rw [resv_flat _ _ _ hf]
  show DL.R.ok d (S1.take S.length) = _
  rw [hl]
theorem body_rt' {N : Nat} {B : SM} {ds : List D} {d : D} (h : B (startD N ds) S = .rt d S1) (hf : d.flat = true) : bodyD N B ds S = .ok d (S1.take S.length) := by
  unfold bodyD
  rw [h]
  show retD S.length S1 (resv S.length S1 d) = _
  rw [resv_flat _ _ _ hf]
  rfl
/-- a changed list is handed back as a new one -/
theorem body_ref {N : Nat} {B : SM} {ds : List D} {n : Nat} {b : Bool} {l : List D} (h : B (startD N ds) S = .rt (.ref n) S1) (hn : S.length ≤ n) (hc : S1[n]? = some ⟨b, .lst l⟩) : bodyD N B ds S = .ok (.lst l) (S1.take S.length) := by
  unfold bodyD
  rw [h]
  show retD S.length S1 (resv S.length S1 (.ref n)) = _
  unfold resv
  rw [if_neg (by omega), hc]
  rfl
theorem bodyL_ref {N : Nat} {B : SM} {ds : List D} {n : Nat} {l : List D} (h : B (startD N ds) S = .rt (.ref n) S1) (hn : S.length ≤ n) (hc : S1[n]? = some ⟨true, .lst l⟩) : bodyL N B ds S = .ok l (S1.take S.length) := by
  unfold bodyL
  rw [h]
  show (if S.length ≤ n then (match S1[n]? with
    | some ⟨true, .lst l⟩ => .ok l (S1.take S.length)
    | _ => .stuck : DL.R (List D)) else .stuck) = _
  rw [if_pos hn, hc]
theorem body_nx {N : Nat} {B : SM} {ds : List D} {ρ1 : En} (h : B (startD N ds) S = .nx ρ1 S1) (hl : S1.take S.length = S) : bodyD N B ds S = .ok .non S := by
  unfold bodyD
  rw [h]
  show DL.R.ok D.non (S1.take S.length) = _
  rw [hl]
theorem take_same : S.take S.length = S := List.take_length
theorem take_more {l : Cells} : (S ++ l).take S.length = S := by rw [List.take_left']; rfl
theorem get_new {c : Cell} : (S ++ [c])[S.length]? = some c := by simp
/-- from a new list, in a def that hands it back at once -/
theorem bodyL_new {N : Nat} {B : SM} {ds l : List D} (h : B (startD N ds) S = .rt (.ref S.length) (S ++ [⟨true, .lst l⟩])) : bodyL N B ds S = .ok l S := by
  rw [bodyL_ref h (Nat.le_refl _) get_new, take_more]
/-! loops -/
theorem for_nil {p : Pat} {B : SM} : forD p B [] ρ S = .nx ρ S := rfl
theorem for_cons {p : Pat} {B : SM} {d : D} {ds : List D} {ρ1 ρ2 : En} {o : Out} (h1 : p.put d ρ = some ρ1) (h2 : B ρ1 S = .nx ρ2 S1) (h3 : forD p B ds ρ2 S1 = o) : forD p B (d :: ds) ρ S = o := by
  rw [forD_cons, h1]
  show stepD (forD p B ds) (B ρ1 S) = o
  rw [h2]
  exact h3
theorem for_cons_rt {p : Pat} {B : SM} {d e : D} {ds : List D} {ρ1 : En} (h1 : p.put d ρ = some ρ1) (h2 : B ρ1 S = .rt e S1) : forD p B (d :: ds) ρ S = .rt e S1 := by
  rw [forD_cons, h1]
  show stepD (forD p B ds) (B ρ1 S) = _
  rw [h2]
  rfl
/-- a loop that keeps an invariant, item by item -/
theorem for_I {p : Pat} {B : SM} {γ σ : Type} (enc : γ → D) (st : σ → γ → σ) (I : σ → En → Cells → Prop) (l : List γ)
    (h : ∀ a ∈ l, ∀ s ρ S, I s ρ S → ∃ ρ1 ρ2 S2, p.put (enc a) ρ = some ρ1 ∧ B ρ1 S = .nx ρ2 S2 ∧ I (st s a) ρ2 S2) :
    ∀ s ρ S, I s ρ S → ∃ ρ2 S2, forD p B (l.map enc) ρ S = .nx ρ2 S2 ∧ I (l.foldl st s) ρ2 S2 := by
  induction l with
  | nil => exact fun s ρ S i => ⟨ρ, S, rfl, i⟩
  | cons a l ih =>
    intro s ρ S i
    obtain ⟨ρ1, ρ2, S2, e1, e2, i2⟩ := h a List.mem_cons_self s ρ S i
    obtain ⟨ρ3, S3, e3, i3⟩ := ih (fun b hb => h b (List.mem_cons_of_mem _ hb)) _ _ _ i2
    exact ⟨ρ3, S3, for_cons e1 e2 e3, i3⟩
/-! comprehensions -/
theorem comp_nil {p : Pat} {ft : En → M Bool} {fe : En → M D} : compD p ft fe ρ [] S = .ok [] S := rfl
theorem comp_t {p : Pat} {ft : En → M Bool} {fe : En → M D} {d y : D} {ds l : List D} {ρ1 : En} (h1 : p.put d ρ = some ρ1) (h2 : ft ρ1 S = .ok true S1) (h3 : fe ρ1 S1 = .ok y S2) (h4 : compD p ft fe ρ ds S2 = .ok l S3) : compD p ft fe ρ (d :: ds) S = .ok (y :: l) S3 := by
  unfold compD
  rw [h1]
  show M.bind (calmM (ft ρ1)) _ S = _
  exact bd_ok (calm_of h2) (bd_ok (calm_of h3) (bd_ok h4 rfl))
theorem comp_f {p : Pat} {ft : En → M Bool} {fe : En → M D} {d : D} {ds : List D} {ρ1 : En} {r : R (List D)} (h1 : p.put d ρ = some ρ1) (h2 : ft ρ1 S = .ok false S1) (h4 : compD p ft fe ρ ds S1 = r) : compD p ft fe ρ (d :: ds) S = r := by
  unfold compD
  rw [h1]
  show M.bind (calmM (ft ρ1)) _ S = _
  exact bd_ok (calm_of h2) h4
theorem lc_mk {i : M (List D)} {p : Pat} {t : En → M Bool} {e : En → M D} {vs : List Nat} {items l : List D} (h1 : i S = .ok items S1) (h2 : compD p t e (wipeD ρ vs) items S1 = .ok l S2) : lcL i p t e ρ vs S = .ok l S2 := bd_ok h1 h2
/-- each item by a function -/
theorem comp_map {p : Pat} {fe : En → M D} {γ : Type} (enc : γ → D) (f : γ → D) (l : List γ) (h : ∀ a ∈ l, ∃ ρ1, p.put (enc a) ρ = some ρ1 ∧ fe ρ1 S = .ok (f a) S) : compD p (fun _ => yesM) fe ρ (l.map enc) S = .ok (l.map f) S := by
  induction l with
  | nil => rfl
  | cons a l ih =>
    obtain ⟨ρ1, e1, e2⟩ := h a List.mem_cons_self
    exact comp_t e1 rfl e2 (ih fun b hb => h b (List.mem_cons_of_mem _ hb))
theorem comp_filter {p : Pat} {ft : En → M Bool} {fe : En → M D} {γ : Type} (enc : γ → D) (t : γ → Bool) (f : γ → D) (l : List γ) (h : ∀ a ∈ l, ∃ ρ1, p.put (enc a) ρ = some ρ1 ∧ ft ρ1 S = .ok (t a) S ∧ (t a = true → fe ρ1 S = .ok (f a) S)) :
    compD p ft fe ρ (l.map enc) S = .ok ((l.filter t).map f) S := by
  induction l with
  | nil => rfl
  | cons a l ih =>
    obtain ⟨ρ1, e1, e2, e3⟩ := h a List.mem_cons_self
    have ih := ih fun b hb => h b (List.mem_cons_of_mem _ hb)
    cases ht : t a with
    | true =>
      rw [List.filter_cons_of_pos (by rw [ht])]
      rw [ht] at e2
      exact comp_t e1 e2 (e3 ht) ih
    | false =>
      rw [List.filter_cons_of_neg (by rw [ht]; simp)]
      rw [ht] at e2
      exact comp_f e1 e2 ih
/-- each item by a step that changes the store -/
theorem comp_I {p : Pat} {fe : En → M D} (J : Nat → Cells → Prop) (Q : D → Prop) : ∀ (ds : List D) (k : Nat) (S : Cells), J k S → (∀ d ∈ ds, ∀ k S, J k S → ∃ ρ1 y S2, p.put d ρ = some ρ1 ∧ fe ρ1 S = .ok y S2 ∧ Q y ∧ J (k + 1) S2) →
    ∃ l S2, compD p (fun _ => yesM) fe ρ ds S = .ok l S2 ∧ (∀ y ∈ l, Q y) ∧ l.length = ds.length ∧ J (k + ds.length) S2
  | [], k, S, j, _ => ⟨[], S, rfl, fun y h => by simp at h, rfl, j⟩
  | d :: ds, k, S, j, h => by
    obtain ⟨ρ1, y, S2, e1, e2, q, j2⟩ := h d List.mem_cons_self k S j
    obtain ⟨l, S3, e3, q3, n3, j3⟩ := comp_I J Q ds (k + 1) S2 j2 fun b hb => h b (List.mem_cons_of_mem _ hb)
    refine ⟨y :: l, S3, comp_t e1 rfl e2 e3, fun z hz => ?_, by simp [n3], ?_⟩
    · rcases List.mem_cons.mp hz with e | hz
      · rw [e]; exact q
      · exact q3 z hz
    · rw [List.length_cons, show k + (ds.length + 1) = k + 1 + ds.length by omega]
      exact j3
end
theorem bls?_all {l : List Bool} : (l.map D.bl).map id = l.map D.bl := by simp
end DL
end
section
set_option maxHeartbeats 0
/-! MScan: lists of scans as pairs of whole numbers: the addresses that they read, the tidy list. No program in sight. -/
namespace MS
abbrev P := Int × Int
/-- the addresses of a scan, in order -/
def rng (p : P) : List Int := if p.1 ≤ p.2 then (List.range (p.2 - p.1 + 1).toNat).map fun k => p.1 + (k : Nat) else (List.range (p.1 - p.2 + 1).toNat).map fun k => p.1 - (k : Nat)
def reads (l : List P) : List Int := l.flatMap rng
def dist (a b : Int) : Int := if a - b < 0 then -(a - b) else a - b
def touch (a b : Int) : Bool := decide (dist a b = 1)
theorem touch_iff {a b : Int} : touch a b = true ↔ a = b + 1 ∨ b = a + 1 := by
  unfold touch dist
  simp only [decide_eq_true_eq]
  split <;> omega
/-- one scan put behind -/
def stp (acc : List P) (p : P) : List P := match acc.getLast? with
  | some q => if touch q.2 p.1 = true then acc.dropLast ++ [(q.1, p.2)] else acc ++ [p]
  | none => acc ++ [p]
def tid (l : List P) : List P := l.foldl stp []
theorem stp_nil (p : P) : stp [] p = [p] := rfl
theorem stp_snoc (l : List P) (q p : P) : stp (l ++ [q]) p = if touch q.2 p.1 = true then l ++ [(q.1, p.2)] else l ++ [q, p] := by
  unfold stp
  simp
theorem stp_ne (l : List P) (p : P) : stp l p ≠ [] := by
  unfold stp
  split
  · split <;> simp
  · simp
def diag (a : Int) : P := (a, a)
theorem rng_up {a b : Int} (h : a ≤ b) : rng (a, b) = a :: (if a + 1 ≤ b then rng (a + 1, b) else []) := by
  unfold rng
  simp only [h, if_true]
  rw [show (b - a + 1).toNat = (b - a).toNat + 1 by omega, List.range_succ_eq_map, List.map_cons, List.map_map]
  split
  · rename_i h2
    rw [show (b - (a + 1) + 1).toNat = (b - a).toNat by omega]
    congr 1
    · simp
    · apply List.map_congr_left
      intro k _
      simp only [Function.comp, Nat.succ_eq_add_one]
      omega
  · rename_i h2
    rw [show (b - a).toNat = 0 by omega]
    simp
theorem rng_dn {a b : Int} (h : b < a) : rng (a, b) = a :: rng (a - 1, b) := by
  unfold rng
  rw [if_neg (by simp; omega)]
  by_cases h2 : a - 1 ≤ b
  · rw [if_pos (by simpa using h2)]
    simp only
    rw [show (a - b + 1).toNat = 2 by omega, show (b - (a - 1) + 1).toNat = 1 by omega]
    simp [List.range_succ]
    skip
  · rw [if_neg (by simpa using h2)]
    simp only
    rw [show (a - b + 1).toNat = (a - 1 - b + 1).toNat + 1 by omega, List.range_succ_eq_map, List.map_cons, List.map_map]
    congr 1
    · simp
    · apply List.map_congr_left
      intro k _
      simp only [Function.comp, Nat.succ_eq_add_one]
      omega
theorem rng_one (a : Int) : rng (a, a) = [a] := by
  rw [rng_up (Int.le_refl a), if_neg (by omega)]
/-- a run, one by one, behind a list that ends where the run begins -/
theorem run_up : ∀ (n : Nat) (a b : Int) (l : List P) (c : Int), (b - a).toNat = n → a ≤ b → ((rng (a, b)).map diag).foldl stp (l ++ [(c, a - 1)]) = l ++ [(c, b)]
  | 0, a, b, l, c, hn, h => by
    have e : a = b := by omega
    subst e
    rw [rng_one]
    show stp (l ++ [(c, a - 1)]) (a, a) = _
    rw [stp_snoc, if_pos (touch_iff.mpr (.inr (by show a = a - 1 + 1; omega)))]
  | n + 1, a, b, l, c, hn, h => by
    rw [rng_up h, if_pos (by omega), List.map_cons, List.foldl_cons]
    show List.foldl stp (stp (l ++ [(c, a - 1)]) (a, a)) _ = _
    rw [stp_snoc, if_pos (touch_iff.mpr (.inr (by show a = a - 1 + 1; omega)))]
    have := run_up n (a + 1) b l c (by omega) (by omega)
    rw [show a + 1 - 1 = a by omega] at this
    exact this
theorem run_dn : ∀ (n : Nat) (a b : Int) (l : List P) (c : Int), (a - b).toNat = n → b ≤ a → ((rng (a, b)).map diag).foldl stp (l ++ [(c, a + 1)]) = l ++ [(c, b)]
  | 0, a, b, l, c, hn, h => by
    have e : a = b := by omega
    subst e
    rw [rng_one]
    show stp (l ++ [(c, a + 1)]) (a, a) = _
    rw [stp_snoc, if_pos (touch_iff.mpr (.inl (by show a + 1 = a + 1; rfl)))]
  | n + 1, a, b, l, c, hn, h => by
    rw [rng_dn (by omega), List.map_cons, List.foldl_cons]
    show List.foldl stp (stp (l ++ [(c, a + 1)]) (a, a)) _ = _
    rw [stp_snoc, if_pos (touch_iff.mpr (.inl (by show a + 1 = a + 1; rfl)))]
    have := run_dn n (a - 1) b l c (by omega) (by omega)
    rw [show a - 1 + 1 = a by omega] at this
    exact this
/-- one run is one step -/
theorem run_step (acc : List P) (p : P) : ((rng p).map diag).foldl stp acc = stp acc p := by
  obtain ⟨a, b⟩ := p
  have first : ∃ l c, stp acc (a, a) = l ++ [(c, a)] ∧ stp acc (a, b) = l ++ [(c, b)] := by
    rcases List.eq_nil_or_concat acc with e | ⟨l, q, e⟩
    · subst e
      exact ⟨[], a, rfl, rfl⟩
    · rw [List.concat_eq_append] at e
      subst e
      rw [stp_snoc, stp_snoc]
      show ∃ l' c, (if touch q.2 a = true then _ else _) = _ ∧ (if touch q.2 a = true then _ else _) = _
      split
      · exact ⟨l, q.1, rfl, rfl⟩
      · exact ⟨l ++ [q], a, by simp, by simp⟩
  obtain ⟨l, c, e1, e2⟩ := first
  rw [e2]
  by_cases h : a ≤ b
  · rw [rng_up h, List.map_cons, List.foldl_cons]
    show List.foldl stp (stp acc (a, a)) _ = _
    rw [e1]
    split
    · rename_i h2
      have := run_up _ (a + 1) b l c rfl h2
      rw [show a + 1 - 1 = a by omega] at this
      exact this
    · have e : a = b := by omega
      subst e
      rfl
  · rw [rng_dn (by omega), List.map_cons, List.foldl_cons]
    show List.foldl stp (stp acc (a, a)) _ = _
    rw [e1]
    have := run_dn _ (a - 1) b l c rfl (by omega)
    rw [show a - 1 + 1 = a by omega] at this
    exact this
theorem tid_acc (l : List P) : ∀ acc, ((reads l).map diag).foldl stp acc = l.foldl stp acc := by
  induction l with
  | nil => intro acc; rfl
  | cons p l ih =>
    intro acc
    show ((rng p ++ reads l).map diag).foldl stp acc = _
    rw [List.map_append, List.foldl_append, run_step, ih]
    rfl
/-- address by address is scan by scan -/
theorem tid_reads (l : List P) : tid ((reads l).map diag) = tid l := tid_acc l []
/-! ### turned -/
def swp (p : P) : P := (p.2, p.1)
def rev (l : List P) : List P := (l.map swp).reverse
theorem rng_map_up (a b : Int) (h : a ≤ b) : rng (a, b) = (List.range (b - a + 1).toNat).map fun k => a + (k : Nat) := by unfold rng; rw [if_pos (by simpa using h)]
theorem rng_rev (p : P) : rng (swp p) = (rng p).reverse := by
  obtain ⟨a, b⟩ := p
  show rng (b, a) = _
  have key : ∀ (n : Nat) (a b : Int), (b - a).toNat = n → a ≤ b → rng (b, a) = (rng (a, b)).reverse := by
    intro n
    induction n with
    | zero =>
      intro a b hn h
      have e : a = b := by omega
      subst e
      rw [rng_one]
      rfl
    | succ n ih =>
      intro a b hn h
      rw [rng_dn (by omega), ih a (b - 1) (by omega) (by omega), rng_map_up a b h, rng_map_up a (b - 1) (by omega)]
      rw [show (b - a + 1).toNat = (b - 1 - a + 1).toNat + 1 by omega, List.range_succ, List.map_append, List.reverse_append]
      simp
      omega
  by_cases h : a ≤ b
  · exact key _ a b rfl h
  · rw [key _ b a rfl (by omega), List.reverse_reverse]
theorem reads_rev (l : List P) : reads (rev l) = (reads l).reverse := by
  induction l with
  | nil => rfl
  | cons p l ih =>
    show reads (((swp p) :: l.map swp).reverse) = (rng p ++ reads l).reverse
    rw [List.reverse_cons, List.reverse_append, ← ih, ← rng_rev]
    unfold reads rev
    rw [List.flatMap_append]
    simp
/-- a scan put ahead -/
def cns (p : P) (l : List P) : List P := match l with
  | q :: r => if touch p.2 q.1 = true then (p.1, q.2) :: r else p :: q :: r
  | [] => [p]
theorem touch_comm (a b : Int) : touch a b = touch b a := by
  rw [Bool.eq_iff_iff, touch_iff, touch_iff]
  omega
theorem stp_cons (p : P) (l : List P) (q : P) (h : l ≠ []) : stp (p :: l) q = p :: stp l q := by
  obtain ⟨m, x, e⟩ := (List.eq_nil_or_concat l).resolve_left h
  rw [List.concat_eq_append] at e
  subst e
  rw [show p :: (m ++ [x]) = (p :: m) ++ [x] from rfl, stp_snoc, stp_snoc]
  split <;> rfl
theorem cns_stp (p : P) (l : List P) (q : P) (h : l ≠ []) : stp (cns p l) q = cns p (stp l q) := by
  cases l with
  | nil => exact absurd rfl h
  | cons x r =>
    cases r with
    | nil =>
      show stp (if touch p.2 x.1 = true then [(p.1, x.2)] else [p, x]) q = cns p (stp ([] ++ [x]) q)
      rw [stp_snoc]
      by_cases h1 : touch p.2 x.1 = true
      · rw [if_pos h1]
        rw [show [(p.1, x.2)] = [] ++ [(p.1, x.2)] from rfl, stp_snoc]
        by_cases h2 : touch x.2 q.1 = true
        · rw [if_pos h2, if_pos h2]
          show _ = (if touch p.2 x.1 = true then _ else _)
          rw [if_pos h1]
          rfl
        · rw [if_neg h2, if_neg h2]
          show _ = (if touch p.2 x.1 = true then _ else _)
          rw [if_pos h1]
          rfl
      · rw [if_neg h1]
        rw [show [p, x] = [p] ++ [x] from rfl, stp_snoc]
        by_cases h2 : touch x.2 q.1 = true
        · rw [if_pos h2, if_pos h2]
          show _ = (if touch p.2 x.1 = true then _ else _)
          rw [if_neg h1]
          rfl
        · rw [if_neg h2, if_neg h2]
          show _ = (if touch p.2 x.1 = true then _ else _)
          rw [if_neg h1]
          rfl
    | cons y r =>
      rw [stp_cons x (y :: r) q (by simp)]
      show stp (if touch p.2 x.1 = true then (p.1, x.2) :: y :: r else p :: x :: y :: r) q = (if touch p.2 x.1 = true then (p.1, x.2) :: stp (y :: r) q else p :: x :: stp (y :: r) q)
      split
      · rw [stp_cons _ _ _ (by simp)]
      · rw [stp_cons _ _ _ (by simp), stp_cons _ _ _ (by simp)]
theorem fold_cns (p : P) : ∀ (l : List P) (acc : List P), acc ≠ [] → l.foldl stp (cns p acc) = cns p (l.foldl stp acc)
  | [], _, _ => rfl
  | q :: l, acc, h => by
    rw [List.foldl_cons, List.foldl_cons, cns_stp p acc q h, fold_cns p l _ (stp_ne _ _)]
theorem tid_cons (p : P) (l : List P) : tid (p :: l) = cns p (tid l) := by
  cases l with
  | nil => rfl
  | cons q l =>
    show List.foldl stp (stp [p] q) l = cns p (List.foldl stp [q] l)
    rw [← fold_cns p l [q] (by simp)]
    rfl
theorem tid_snoc (l : List P) (p : P) : tid (l ++ [p]) = stp (tid l) p := by
  unfold tid
  rw [List.foldl_append]
  rfl
theorem rev_cons (p : P) (l : List P) : rev (p :: l) = rev l ++ [swp p] := by simp [rev]
theorem rev_snoc (l : List P) (p : P) : rev (l ++ [p]) = swp p :: rev l := by simp [rev]
theorem stp_rev (p : P) (l : List P) : stp (rev l) (swp p) = rev (cns p l) := by
  cases l with
  | nil => rfl
  | cons q r =>
    rw [rev_cons, stp_snoc]
    show (if touch q.1 p.2 = true then _ else _) = rev (if touch p.2 q.1 = true then _ else _)
    rw [touch_comm]
    split
    · rw [rev_cons]
      rfl
    · rw [rev_cons, rev_cons, List.append_assoc]
      rfl
/-- the tidy list of the turned one -/
theorem tid_rev (l : List P) : tid (rev l) = rev (tid l) := by
  induction l with
  | nil => rfl
  | cons p l ih => rw [rev_cons, tid_snoc, ih, stp_rev, tid_cons]
/-! ### valid lists -/
structure Valid (l : List P) : Prop where
  nn : ∀ p ∈ l, 0 ≤ p.1 ∧ 0 ≤ p.2
  nd : (reads l).Nodup
theorem mem_rng {p : P} {a : Int} : a ∈ rng p ↔ (p.1 ≤ a ∧ a ≤ p.2) ∨ (p.2 ≤ a ∧ a ≤ p.1) := by
  obtain ⟨x, y⟩ := p
  unfold rng
  split
  · rename_i h
    simp only at h
    simp only [List.mem_map, List.mem_range]
    constructor
    · rintro ⟨k, hk, rfl⟩
      left
      omega
    · intro h2
      refine ⟨(a - x).toNat, by omega, by omega⟩
  · rename_i h
    simp only at h
    simp only [List.mem_map, List.mem_range]
    constructor
    · rintro ⟨k, hk, rfl⟩
      right
      omega
    · intro h2
      refine ⟨(x - a).toNat, by omega, by omega⟩
theorem rng_nodup (p : P) : (rng p).Nodup := by
  unfold rng
  split
  · exact List.Pairwise.map _ (fun i j h => by omega) List.nodup_range
  · exact List.Pairwise.map _ (fun i j h => by omega) List.nodup_range
theorem mem_reads {l : List P} {a : Int} : a ∈ reads l ↔ ∃ p ∈ l, a ∈ rng p := by simp [reads]
/-- reads of what is joined -/
theorem rng_join {a b c d : Int} (ht : touch b c = true) (hd : ∀ x, x ∈ rng (a, b) → x ∉ rng (c, d)) : rng (a, d) = rng (a, b) ++ rng (c, d) := by
  have hb : b ∈ rng (a, b) := mem_rng.mpr (by simp; omega)
  have nb := hd b hb
  have ha : a ∈ rng (a, b) := mem_rng.mpr (by simp; omega)
  have hc : c ∈ rng (c, d) := mem_rng.mpr (by simp; omega)
  have na : c ∉ rng (a, b) := fun z => hd c z hc
  have nb : ¬((c ≤ b ∧ b ≤ d) ∨ (d ≤ b ∧ b ≤ c)) := fun z => nb (mem_rng.mpr z)
  have na : ¬((a ≤ c ∧ c ≤ b) ∨ (b ≤ c ∧ c ≤ a)) := fun z => na (mem_rng.mpr z)
  rcases touch_iff.mp ht with e | e
  · -- going down: b = c + 1
    subst e
    have h1 : c + 1 ≤ a := by omega
    have h2 : d ≤ c := by omega
    have key : ∀ (n : Nat) (a : Int), (a - (c + 1)).toNat = n → c + 1 ≤ a → rng (a, d) = rng (a, c + 1) ++ rng (c, d) := by
      intro n
      induction n with
      | zero =>
        intro a hn h
        have e : a = c + 1 := by omega
        subst e
        rw [rng_one, rng_dn (by omega), show c + 1 - 1 = c by omega]
        rfl
      | succ n ih =>
        intro a hn h
        rw [rng_dn (by omega), ih (a - 1) (by omega) (by omega), rng_dn (a := a) (b := c + 1) (by omega)]
        rfl
    exact key _ a rfl h1
  · subst e
    have h1 : a ≤ b := by omega
    have h2 : b + 1 ≤ d := by omega
    have key : ∀ (n : Nat) (a : Int), (b - a).toNat = n → a ≤ b → rng (a, d) = rng (a, b) ++ rng (b + 1, d) := by
      intro n
      induction n with
      | zero =>
        intro a hn h
        have e : a = b := by omega
        subst e
        rw [rng_one, rng_up (by omega), if_pos (by omega)]
        rfl
      | succ n ih =>
        intro a hn h
        rw [rng_up (by omega), if_pos (by omega), ih (a + 1) (by omega) (by omega), rng_up (a := a) (b := b) (by omega), if_pos (by omega)]
        rfl
    exact key _ a rfl h1
theorem reads_app (l m : List P) : reads (l ++ m) = reads l ++ reads m := by simp [reads]
theorem reads_one (p : P) : reads [p] = rng p := by simp [reads]
theorem reads_stp (acc : List P) (p : P) (h : (reads acc ++ rng p).Nodup) : reads (stp acc p) = reads acc ++ rng p := by
  rcases List.eq_nil_or_concat acc with e | ⟨l, q, e⟩
  · subst e
    rw [stp_nil, reads_one]
    rfl
  · rw [List.concat_eq_append] at e
    subst e
    rw [stp_snoc]
    split
    · rename_i ht
      rw [reads_app, reads_app, reads_one, reads_one, List.append_assoc]
      congr 1
      obtain ⟨a, b⟩ := q
      obtain ⟨c, d⟩ := p
      refine rng_join ht fun x hx hy => ?_
      rw [reads_app, reads_one] at h
      have := (List.nodup_append.mp h).2.2 x (List.mem_append_right _ hx) x hy
      exact this rfl
    · rw [show l ++ [q, p] = (l ++ [q]) ++ [p] by simp, reads_app, reads_one]
theorem reads_fold : ∀ (l acc : List P), (reads acc ++ reads l).Nodup → reads (l.foldl stp acc) = reads acc ++ reads l
  | [], acc, _ => by simp [reads]
  | p :: l, acc, h => by
    have e : reads (p :: l) = rng p ++ reads l := rfl
    rw [e, ← List.append_assoc] at h
    have h1 : (reads acc ++ rng p).Nodup := (List.nodup_append.mp h).1
    rw [List.foldl_cons, reads_fold l (stp acc p) (by rw [reads_stp _ _ h1]; exact h), reads_stp _ _ h1, e, List.append_assoc]
theorem reads_tid {l : List P} (h : (reads l).Nodup) : reads (tid l) = reads l := by
  exact reads_fold l [] h
theorem tid_tid {l : List P} (h : (reads l).Nodup) : tid (tid l) = tid l := by rw [← tid_reads (tid l), reads_tid h, tid_reads]
theorem end_mem (p : P) : p.1 ∈ rng p ∧ p.2 ∈ rng p := ⟨mem_rng.mpr (by omega), mem_rng.mpr (by omega)⟩
theorem Valid.all {l : List P} (h : Valid l) : ∀ a ∈ reads l, 0 ≤ a := fun a ha => by
  obtain ⟨p, hp, hr⟩ := mem_reads.mp ha
  obtain ⟨h1, h2⟩ := h.nn p hp
  rcases mem_rng.mp hr with ⟨h3, h4⟩ | ⟨h3, h4⟩ <;> omega
theorem Valid.tid {l : List P} (h : Valid l) : Valid (tid l) := by
  refine ⟨fun p hp => ?_, by rw [reads_tid h.nd]; exact h.nd⟩
  have m : ∀ a ∈ rng p, a ∈ reads l := fun a ha => by
    rw [← reads_tid h.nd]
    exact mem_reads.mpr ⟨p, hp, ha⟩
  exact ⟨h.all _ (m _ (end_mem p).1), h.all _ (m _ (end_mem p).2)⟩
theorem Valid.perm {l m : List P} (h : Valid l) (p : l.Perm m) : Valid m :=
  ⟨fun q hq => h.nn q (p.mem_iff.mpr hq), (p.flatMap_right rng).nodup_iff.mp h.nd⟩
theorem Valid.nil : Valid [] := ⟨fun p h => by simp at h, List.nodup_nil⟩
theorem rng_len (p : P) : ((rng p).length : Int) = dist p.2 p.1 + 1 := by
  obtain ⟨a, b⟩ := p
  unfold rng dist
  split
  · rename_i h
    simp only at h
    simp only [List.length_map, List.length_range]
    split <;> omega
  · rename_i h
    simp only at h
    simp only [List.length_map, List.length_range]
    split <;> omega
theorem reads_len (l : List P) : ((reads l).length : Int) = (l.map fun p => dist p.2 p.1 + 1).sum := by
  induction l with
  | nil => rfl
  | cons p l ih =>
    show ((rng p ++ reads l).length : Int) = _
    rw [List.length_append, List.map_cons, List.sum_cons, ← ih, ← rng_len]
    omega
/-! ### the tidy list by its begins -/
def z : P := (0, 0)
def tst (l : List P) (k : Nat) : Bool := k == 0 || !touch (l.getD (k - 1) z).2 (l.getD k z).1
def begs (l : List P) : List Nat := (List.range l.length).filter (tst l)
def prs : List Nat → Nat → List (Nat × Nat)
  | [], _ => []
  | [b], n => [(b, n)]
  | b :: c :: r, n => (b, c) :: prs (c :: r) n
theorem prs_zip : ∀ (bs : List Nat) (n : Nat), bs.zip (bs.drop 1 ++ [n]) = prs bs n
  | [], _ => rfl
  | [b], n => rfl
  | b :: c :: r, n => by
    have ih := prs_zip (c :: r) n
    show (b, c) :: (c :: r).zip (r ++ [n]) = (b, c) :: prs (c :: r) n
    rw [← ih]
    rfl
theorem prs_snoc : ∀ (bs : List Nat) (b n : Nat), prs (bs ++ [b]) n = prs bs b ++ [(b, n)]
  | [], _, _ => rfl
  | [c], b, n => rfl
  | c :: d :: r, b, n => by
    have ih := prs_snoc (d :: r) b n
    show (c, d) :: prs ((d :: r) ++ [b]) n = (c, d) :: prs (d :: r) b ++ [(b, n)]
    rw [ih]
    rfl
theorem prs_mem : ∀ (bs : List Nat) (n : Nat) (q : Nat × Nat), q ∈ prs bs n → q.1 ∈ bs ∧ (q.2 ∈ bs ∨ q.2 = n)
  | [], _, q, h => by simp [prs] at h
  | [b], n, q, h => by
    simp [prs] at h
    subst h
    simp
  | b :: c :: r, n, q, h => by
    rcases List.mem_cons.mp h with e | h
    · subst e
      simp
    · obtain ⟨h1, h2⟩ := prs_mem (c :: r) n q h
      exact ⟨List.mem_cons_of_mem _ h1, h2.imp (List.mem_cons_of_mem _) fun e => e⟩
def pick (l : List P) (q : Nat × Nat) : P := ((l.getD q.1 z).1, (l.getD (q.2 - 1) z).2)
theorem begs_snoc (l : List P) (p : P) : begs (l ++ [p]) = begs l ++ if tst (l ++ [p]) l.length = true then [l.length] else [] := by
  unfold begs
  rw [List.length_append, List.length_singleton, List.range_succ, List.filter_append]
  congr 1
  · apply List.filter_congr
    intro k hk
    rw [List.mem_range] at hk
    unfold tst
    rw [List.getD_eq_getElem?_getD, List.getD_eq_getElem?_getD, List.getD_eq_getElem?_getD, List.getD_eq_getElem?_getD, List.getElem?_append_left (by omega), List.getElem?_append_left (by omega)]
  · by_cases h : tst (l ++ [p]) l.length = true
    · rw [if_pos h, List.filter_cons_of_pos h]
      rfl
    · rw [if_neg h, List.filter_cons_of_neg h]
      rfl
theorem begs_lt {l : List P} {b : Nat} (h : b ∈ begs l) : b < l.length := by
  unfold begs at h
  exact List.mem_range.mp (List.mem_filter.mp h).1
theorem begs_ne {l : List P} (h : l ≠ []) : begs l ≠ [] := fun e => by
  have m : 0 ∈ begs l := by
    unfold begs
    rw [List.mem_filter, List.mem_range]
    exact ⟨List.length_pos_iff.mpr h, rfl⟩
  rw [e] at m
  simp at m
theorem pick_app {l : List P} {p : P} {q : Nat × Nat} (h1 : q.1 < l.length) (h2 : q.2 - 1 < l.length) : pick (l ++ [p]) q = pick l q := by
  unfold pick
  rw [List.getD_eq_getElem?_getD, List.getD_eq_getElem?_getD, List.getD_eq_getElem?_getD, List.getD_eq_getElem?_getD, List.getElem?_append_left h1, List.getElem?_append_left h2]
theorem getD_last (l : List P) (p : P) : (l ++ [p]).getD l.length z = p := by simp [List.getD_eq_getElem?_getD]
theorem snoc_ind {α : Type} {C : List α → Prop} (h0 : C []) (h1 : ∀ l a, C l → C (l ++ [a])) (l : List α) : C l := by
  have key : ∀ m : List α, C m.reverse := fun m => by
    induction m with
    | nil => exact h0
    | cons a m ih =>
      rw [List.reverse_cons]
      exact h1 _ _ ih
  have := key l.reverse
  rwa [List.reverse_reverse] at this
theorem begs_tid (l : List P) : (prs (begs l) l.length).map (pick l) = tid l ∧ (∀ q, (tid l).getLast? = some q → q.2 = (l.getD (l.length - 1) z).2) := by
  induction l using snoc_ind with
  | h0 => exact ⟨rfl, fun q e => by simp [tid] at e⟩
  | h1 l p ih =>
    obtain ⟨ih, il⟩ := ih
    rw [tid_snoc, begs_snoc, List.length_append, List.length_singleton]
    rcases List.eq_nil_or_concat l with e | ⟨m, x, e⟩
    · subst e
      refine ⟨rfl, fun q e => ?_⟩
      have e : ([p] : List P).getLast? = some q := e
      simp at e
      subst e
      rfl
    · have hne : l ≠ [] := by subst e; simp
      have hpos : 0 < l.length := List.length_pos_iff.mpr hne
      have tn : tst (l ++ [p]) l.length = !touch (l.getD (l.length - 1) z).2 p.1 := by
        unfold tst
        rw [getD_last, List.getD_eq_getElem?_getD, List.getElem?_append_left (by omega), ← List.getD_eq_getElem?_getD]
        have : (l.length == 0) = false := by simp; exact hne
        rw [this]
        rfl
      obtain ⟨bs, b, eb⟩ := (List.eq_nil_or_concat (begs l)).resolve_left (begs_ne hne)
      rw [List.concat_eq_append] at eb
      have inb : ∀ c ∈ bs ++ [b], c < l.length := fun c hc => begs_lt (by rw [eb]; exact hc)
      have lt : tid l = (prs bs b).map (pick l) ++ [((l.getD b z).1, (l.getD (l.length - 1) z).2)] := by
        rw [← ih, eb, prs_snoc, List.map_append]
        rfl
      have old : (prs bs b).map (pick (l ++ [p])) = (prs bs b).map (pick l) := by
        apply List.map_congr_left
        intro q hq
        obtain ⟨h1, h2⟩ := prs_mem _ _ _ hq
        have h1' := inb q.1 (List.mem_append_left _ h1)
        refine pick_app h1' ?_
        rcases h2 with h2 | h2
        · have := inb q.2 (List.mem_append_left _ h2)
          omega
        · have := inb b (by simp)
          omega
      have hb := inb b (by simp)
      have gb : (l ++ [p]).getD b z = l.getD b z := by
        rw [List.getD_eq_getElem?_getD, List.getElem?_append_left hb, ← List.getD_eq_getElem?_getD]
      by_cases ht : touch (l.getD (l.length - 1) z).2 p.1 = true
      · have tf : ¬ tst (l ++ [p]) l.length = true := by rw [tn, ht]; simp
        rw [if_neg tf, List.append_nil, eb, prs_snoc, List.map_append, old, lt, stp_snoc, if_pos ht]
        refine ⟨?_, fun q e => ?_⟩
        · congr 1
          show [pick (l ++ [p]) (b, l.length + 1)] = _
          unfold pick
          simp only [Nat.add_sub_cancel]
          rw [getD_last, gb]
        · rw [List.getLast?_concat] at e
          cases e
          simp only [Nat.add_sub_cancel]
          rw [getD_last]
      · have tt : tst (l ++ [p]) l.length = true := by rw [tn]; simpa using ht
        rw [if_pos tt, prs_snoc, List.map_append, eb, prs_snoc, List.map_append, old, lt, stp_snoc, if_neg ht]
        refine ⟨?_, fun q e => ?_⟩
        · have e1 : pick (l ++ [p]) (b, l.length) = ((l.getD b z).1, (l.getD (l.length - 1) z).2) := pick_app hb (by show l.length - 1 < l.length; omega)
          have e2 : pick (l ++ [p]) (l.length, l.length + 1) = p := by
            unfold pick
            simp only [Nat.add_sub_cancel]
            rw [getD_last]
          simp only [List.map_cons, List.map_nil, e1, e2, List.append_assoc]
          rfl
        · rw [show ∀ (A : List P) (u v : P), A ++ [u, v] = (A ++ [u]) ++ [v] from fun A u v => by simp, List.getLast?_concat] at e
          cases e
          simp only [Nat.add_sub_cancel]
          rw [getD_last]
end MS
end
section
set_option maxHeartbeats 4000000
/-! DLn: data of numbers, pairs, lists of pairs; the laws' bag of draws. -/
namespace DL
open PySem PySem.Spec L2
open PyProof.Rows hiding St
section
variable {S S1 : Cells}
theorem dEq_int {i j : Int} : dEq (.int i) (.int j) S = some (.bl (decide (i = j))) := by
  show some (D.bl (i == j)) = _
  have : (i == j) = decide (i = j) := by rw [Bool.eq_iff_iff]; simp
  rw [this]
theorem dNe_int {i j : Int} : dNe (.int i) (.int j) S = some (.bl (!decide (i = j))) := by
  show some (D.bl (!(i == j))) = _
  have : (i == j) = decide (i = j) := by rw [Bool.eq_iff_iff]; simp
  rw [this]
def pyP (p : MS.P) : PyData := .tuple [.int p.1, .int p.2]
theorem toPyP (l : List MS.P) : toPyL (l.map encP) = some (l.map pyP) := by
  induction l with
  | nil => rfl
  | cons p l ih =>
    show (match toPy (encP p), toPyL (l.map encP) with
      | some e, some es => some (e :: es)
      | _, _ => none) = _
    rw [ih]
    rfl
theorem resv_ps (n0 : Nat) (l : List MS.P) : resvL n0 S (l.map encP) = some (l.map encP) := by
  induction l with
  | nil => rfl
  | cons p l ih =>
    show (match resv n0 S (encP p), resvL n0 S (l.map encP) with
      | some d', some ds' => some (d' :: ds')
      | _, _ => none) = _
    rw [ih]
    rfl
theorem flat_encP (p : MS.P) : (encP p).flat = true := by
  show (D.tup [.int p.1, .int p.2]).flat = true
  rw [flat_tup]
  simp [flatL]
theorem flatL_ps (l : List MS.P) : flatL (l.map encP) = true := by
  unfold flatL
  rw [List.all_map, List.all_eq_true]
  exact fun p _ => flat_encP p
theorem flat_ps (l : List MS.P) : (D.lst (l.map encP)).flat = true := by rw [flat_lst, flatL_ps]
theorem lay_ps (l : List MS.P) : PyData.canLayAll0 (l.map pyP) = true := by
  induction l with
  | nil => rfl
  | cons p l ih =>
    show (PyData.canLay0 (pyP p) && PyData.canLayAll0 (l.map pyP)) = true
    rw [ih]
    rfl
theorem depth_ps (l : List MS.P) : PyData.depthAll (l.map pyP) ≤ 1 := by
  induction l with
  | nil => exact Nat.zero_le _
  | cons p l ih =>
    show max (PyData.depth (pyP p)) (PyData.depthAll (l.map pyP)) ≤ 1
    have : PyData.depth (pyP p) = 1 := rfl
    omega
theorem shaped_ps (l : List MS.P) : SeqAt.shaped (.list (l.map pyP)) = true := by
  show (PyData.canLayAll0 (l.map pyP) && decide (PyData.depthAll (l.map pyP) + 1 ≤ 64)) = true
  rw [lay_ps, decide_eq_true (by have := depth_ps l; omega)]
  rfl
theorem eqv_ps : ∀ (l m : List MS.P), PyData.eqvAll (l.map pyP) (m.map pyP) = decide (l = m)
  | [], [] => rfl
  | [], _ :: _ => rfl
  | _ :: _, [] => rfl
  | p :: l, q :: m => by
    show (((p.1 == q.1) && ((p.2 == q.2) && true)) && PyData.eqvAll (l.map pyP) (m.map pyP)) = _
    rw [eqv_ps l m, Bool.eq_iff_iff]
    obtain ⟨a, b⟩ := p
    obtain ⟨c, d⟩ := q
    simp
theorem vw_ps (l : List MS.P) : vw S (.lst (l.map encP)) = some (.list (l.map pyP)) := by
  unfold vw
  show (match resvL 0 S (l.map encP) with
    | some l' => some (D.lst l')
    | none => none).bind toPy = _
  rw [resv_ps]
  show (match toPyL (l.map encP) with
    | some m => some (PyData.list m)
    | none => none) = _
  rw [toPyP]
theorem eqP_of {d1 d2 : D} {p q : PyData} (h1 : vw S d1 = some p) (h2 : vw S d2 = some q) (s1 : SeqAt.shaped p = true) (s2 : SeqAt.shaped q = true) : eqP d1 d2 S = some (PyData.eqv p q) := by
  unfold eqP
  rw [h1, h2]
  exact if_pos ⟨s1, s2⟩
theorem dEq_ps (l m : List MS.P) : dEq (.lst (l.map encP)) (.lst (m.map encP)) S = some (.bl (decide (l = m))) := by
  show (eqP _ _ S).map D.bl = _
  rw [eqP_of (vw_ps l) (vw_ps m) (shaped_ps l) (shaped_ps m)]
  show some (D.bl (PyData.eqvAll _ _)) = _
  rw [eqv_ps]
theorem vw_ref {n : Nat} {b : Bool} {l : List MS.P} (h : S[n]? = some ⟨b, .lst (l.map encP)⟩) : vw S (.ref n) = some (.list (l.map pyP)) := by
  unfold vw resv
  rw [if_neg (by omega), h]
  show (match toPyL (l.map encP) with
    | some m => some (PyData.list m)
    | none => none) = _
  rw [toPyP]
theorem dNe_nil {n : Nat} {b : Bool} {l : List MS.P} (h : S[n]? = some ⟨b, .lst (l.map encP)⟩) : dNe (.ref n) (.lst []) S = some (.bl (!l.isEmpty)) := by
  show (eqP _ (.lst (([] : List MS.P).map encP)) S).map (fun b => D.bl (!b)) = _
  rw [eqP_of (vw_ref h) (vw_ps []) (shaped_ps l) (shaped_ps [])]
  show some (D.bl (!PyData.eqvAll _ _)) = _
  rw [eqv_ps]
  cases l <;> rfl
/-! lists and cells by place -/
theorem seqL_ref {n : Nat} {b : Bool} {l : List D} (h : S[n]? = some ⟨b, .lst l⟩) : seqL S (.ref n) = some l := by
  show (match S[n]? with
    | some ⟨_, .lst l⟩ => some l
    | _ => none) = _
  rw [h]
theorem ix_ref {n : Nat} {b : Bool} {l : List D} {k : Int} {d : D} (h : S[n]? = some ⟨b, .lst l⟩) (e : atI l k = some d) : ixD (.ref n) (.int k) S = some d := by
  show (seqL S (.ref n)).bind (fun l => atI l k) = _
  rw [seqL_ref h]
  exact e
theorem len_ref {n : Nat} {b : Bool} {l : List D} (h : S[n]? = some ⟨b, .lst l⟩) : dLen [.ref n] S = some (.int l.length) := by
  show (seqL S (.ref n)).map (fun l => D.int l.length) = _
  rw [seqL_ref h]
  rfl
theorem live_ref {n : Nat} {l : List D} (h : S[n]? = some ⟨true, .lst l⟩) : liveL (.ref n) S = some (n, l) := by
  show (match S[n]? with
    | some ⟨true, .lst l⟩ => some (n, l)
    | _ => none) = _
  rw [h]
theorem set_ref {n j : Nat} {l : List D} {k : Int} {y : D} (h : S[n]? = some ⟨true, .lst l⟩) (e : ixN l.length k = some j) (hf : y.flat = true) : setAtD (.ref n) (.int k) y S = some (S.set n ⟨true, .lst (l.set j y)⟩) := by
  unfold setAtD
  rw [live_ref h]
  show (match ixN l.length k with
    | some j => if y.flat = true then some (S.set n ⟨true, .lst (l.set j y)⟩) else none
    | none => none) = _
  rw [e]
  exact if_pos hf
theorem ty_ref {n : Nat} {b : Bool} {l : List D} (h : S[n]? = some ⟨b, .lst l⟩) : isTy "list" (.ref n) S = some () := by
  show (if "list" = "list" ∧ (seqL S (.ref n)).isSome = true then some () else none) = _
  rw [seqL_ref h]
  exact if_pos ⟨rfl, rfl⟩
theorem app_ref {n : Nat} {l : List D} {y : D} (h : S[n]? = some ⟨true, .lst l⟩) (hf : y.flat = true) (hz : l.length < sizeLine) : mAppend (.ref n) [y] S = some (.non, S.set n ⟨true, .lst (l ++ [y])⟩) := by
  unfold mAppend
  rw [live_ref h]
  exact if_pos ⟨hf, hz⟩
theorem get_set {n : Nat} {c c' : Cell} (h : S[n]? = some c) : (S.set n c')[n]? = some c' := by
  rw [List.getElem?_set_self (List.getElem?_eq_some_iff.mp h).1]
theorem get_set_ne {n m : Nat} {c' : Cell} (h : n ≠ m) : (S.set n c')[m]? = S[m]? := List.getElem?_set_ne h
theorem okMul_of {i j : Int} (a b : Nat) (hi : i.natAbs < 2 ^ a) (hj : j.natAbs < 2 ^ b) (h : a + b ≤ 999999) (ha : 0 < a := by decide) (hb : 0 < b := by decide) : okMul i j = true := by
  unfold okMul
  have h1 := PySem.Flt.log2_lt_of ha hi
  have h2 := PySem.Flt.log2_lt_of hb hj
  exact decide_eq_true (by omega)
theorem dMul_ok {i j : Int} (h : okMul i j = true) : dMul (.int i) (.int j) S = some (.int (i * j)) := if_pos h
theorem dDiv_ok {i j : Int} (h : 0 < j) (h2 : j.natAbs < 2 ^ 8999) : dDiv (.int i) (.int j) S = some (.int (i / j)) := if_pos ⟨h, Nat.lt_of_lt_of_le (PySem.Flt.log2_lt_of (by decide) h2) (by decide)⟩
theorem dMod_ok {i j : Int} (h : 0 < j) : dMod (.int i) (.int j) S = some (.int (i % j)) := if_pos h
/-! ranges -/
theorem range1_ok {n : Nat} (h : n ≤ sizeLine) : range1 [.int (n : Int)] = some ((List.range n).map fun i => D.int (i : Nat)) := by
  show rangeD 0 (n : Int) = _
  unfold rangeD
  have hz : sizeLine = 16777216 := by decide
  rw [if_pos ⟨⟨by omega, by omega, by omega, by omega⟩, by omega⟩]
  simp
theorem range_down {n : Nat} : List.range (n + 1) = List.range n ++ [n] := List.range_succ
theorem rangeA_rng {p : MS.P} {s : Int} (h0 : 0 ≤ p.1 ∧ 0 ≤ p.2) (h1 : p.1 < 1000000 ∧ p.2 < 1000000) (hs : s = if p.1 ≤ p.2 then 1 else -1) : rangeA [.int p.1, .int (p.2 + s), .int s] = some ((MS.rng p).map .int) := by
  obtain ⟨a, b⟩ := p
  simp only at h0 h1 hs ⊢
  show rangeC a (b + s) s = _
  have hz : sizeLine = 16777216 := by decide
  by_cases h : a ≤ b
  · rw [if_pos h] at hs
    subst hs
    have sz : Builtin.Range.rangeSize a (b + 1) 1 = b - a + 1 := by
      unfold Builtin.Range.rangeSize
      rw [if_pos (by omega), if_pos (by omega), Int.ediv_one]
      omega
    have ok : okR a (b + 1) 1 = true := by
      unfold okR Builtin.Range.small
      rw [sz]
      have f : ∀ i : Int, 0 ≤ i → i < 2000000 → Builtin.Range.rangeFitsLong i = true := fun i h1 h2 => by
        unfold Builtin.Range.rangeFitsLong
        rw [decide_eq_true (by omega), decide_eq_true (by omega)]
        rfl
      rw [f a (by omega) (by omega), f (b + 1) (by omega) (by omega), f 1 (by omega) (by omega), f (b - a + 1) (by omega) (by omega)]
      simp only [f (b + 1 + (1 - 1)) (by omega) (by omega)]
      simp
      omega
    unfold rangeC
    rw [if_pos ok, sz]
    unfold MS.rng
    rw [if_pos (by simpa using h)]
    simp
  · rw [if_neg h] at hs
    subst hs
    have sz : Builtin.Range.rangeSize a (b + -1) (-1) = a - b + 1 := by
      unfold Builtin.Range.rangeSize
      rw [if_neg (by omega), if_pos (by omega)]
      simp
      omega
    have ok : okR a (b + -1) (-1) = true := by
      unfold okR Builtin.Range.small
      rw [sz]
      have f : ∀ i : Int, -10 ≤ i → i < 2000000 → Builtin.Range.rangeFitsLong i = true := fun i h1 h2 => by
        unfold Builtin.Range.rangeFitsLong
        rw [decide_eq_true (by omega), decide_eq_true (by omega)]
        rfl
      rw [f a (by omega) (by omega), f (b + -1) (by omega) (by omega), f (-1) (by omega) (by omega), f (a - b + 1) (by omega) (by omega)]
      simp only [f (b + -1 + (-1 + 1)) (by omega) (by omega)]
      simp
      omega
    unfold rangeC
    rw [if_pos ok, sz]
    unfold MS.rng
    rw [if_neg (by simpa using h)]
    simp only [List.map_map]
    congr 1
    apply List.map_congr_left
    intro k _
    show D.int (a + (k : Int) * -1) = D.int (a - (k : Int))
    congr 1
    omega
/-! sorted pairs, min, max -/
theorem sortD_ps (ps : List MS.P) : sortD [.lst (ps.map encP)] S = some ((sortP ps).map encP) := by
  unfold sortD
  show (match ints? (ps.map encP) with
    | some ns => some ((sortI ns).map D.int)
    | none => match pairs? (ps.map encP) with
      | some ps => some ((sortP ps).map encP)
      | none => none) = _
  cases ps with
  | nil => simp [ints?, sortI, sortP]
  | cons p ps =>
    show (match pairs? ((p :: ps).map encP) with
      | some ps => some ((sortP ps).map encP)
      | none => none) = _
    rw [pairs?_map]
theorem all_true {γ : Type} (l : List γ) : dAll [.lst (l.map fun _ => D.bl true)] S = some (.bl true) := by
  unfold dAll
  show ((bls? (l.map fun _ => D.bl true)).map fun bs => D.bl (bs.all id)) = _
  have e : (l.map fun _ => D.bl true) = (List.replicate l.length true).map D.bl := by simp [List.map_const']
  rw [e, bls?_map]
  simp
theorem sum_ints (ns : List Int) : dSum [.lst (ns.map .int)] S = some (.int ns.sum) := by
  unfold dSum
  show ((ints? (ns.map .int)).map fun ns => D.int ns.sum) = _
  rw [ints?_map]
  rfl
theorem itR1_ok {a : M (List D)} {l items : List D} (h1 : a S = .ok l S1) (h2 : range1 l = some items) : itR1 a S = .ok items S1 := bd_ok h1 (op_ok h2)
theorem itZ_ok {a : M (List D)} {x y : List D} (h1 : a S = .ok [.lst x, .lst y] S1) : itZ a S = .ok (pairsD x y) S1 := bd_ok h1 (op_ok rfl)
theorem lrg_ok {a : M (List D)} {l items : List D} (h1 : a S = .ok l S1) (h2 : rangeA l = some items) : lrgL a S = .ok items S1 := bd_ok h1 (op_ok h2)
theorem dLen_map {γ : Type} {f : γ → D} (l : List γ) : dLen [.lst (l.map f)] S = some (.int (l.length : Nat)) := by
  show some (D.int ((l.map f).length : Nat)) = _
  rw [List.length_map]
theorem dAdd_lst {a b : List D} (h : a.length + b.length ≤ sizeLine) : dAdd (.lst a) (.lst b) S = some (.lst (a ++ b)) := by
  show (catL (.lst a) (.lst b) S).map D.lst = _
  unfold catL
  show (if a.length + b.length ≤ sizeLine then some (a ++ b) else none).map D.lst = _
  rw [if_pos h]
  rfl
theorem cut1 (xs : List D) : cutD xs (some 1) none = xs.drop 1 := by
  unfold cutD
  rw [show HT.sIx xs.length 0 (some 1) = min 1 xs.length from HT.sIx_nat xs.length 0 1, HT.sIx_none]
  cases xs with
  | nil => rfl
  | cons x r =>
    rw [show min 1 (x :: r).length = 1 by
      rw [List.length_cons]
      omega]
    show (List.take ((x :: r).length - 1) r) = r
    rw [List.length_cons, Nat.add_sub_cancel]
    exact List.take_length
theorem ix_lst {l : List D} {k : Int} {j : Nat} {d : D} (hk : k = (j : Nat)) (e : l[j]? = some d) : ixD (.lst l) (.int k) S = some d := by
  show atI l k = _
  subst hk
  exact atI_nat e
theorem ix_ps {l : List MS.P} {k : Int} {j : Nat} {p : MS.P} (hk : k = (j : Nat)) (e : l[j]? = some p) : ixD (.lst (l.map encP)) (.int k) S = some (encP p) := ix_lst hk (by rw [List.getElem?_map, e]; rfl)
theorem pairsD_map {γ δ : Type} {f : γ → D} {g : δ → D} (a : List γ) (b : List δ) : pairsD (a.map f) (b.map g) = (a.zip b).map fun q => .tup [f q.1, g q.2] := by
  unfold pairsD
  rw [List.zip_map, List.map_map]
  rfl
theorem set_same {n : Nat} {c : Cell} (h : S[n]? = some c) : S.set n c = S := by
  apply List.ext_getElem?
  intro i
  by_cases e : n = i
  · subst e
    rw [get_set h, h]
  · rw [List.getElem?_set_ne e]
/-! ### what is written -/
def logOk (i : Int) : Prop := i.natAbs.log2 < 1920
theorem logOk_of {i : Int} {b : Nat} (h : i.natAbs < 2 ^ b) (h0 : 0 < b := by decide) (h1 : b ≤ 1920 := by decide) : logOk i := Nat.lt_of_lt_of_le (PySem.Flt.log2_lt_of h0 h) h1
theorem listText_le (ts : List Str) : (listText ts).length ≤ 2 + piled ts := by
  rw [listText_eq_join, strLen_append, strLen_append]
  have e1 : (Str.ofString "[").length = 1 := by decide
  have e2 : (Str.ofString "]").length = 1 := by decide
  cases ts with
  | nil =>
    have : (Str.join ", " []).length = 0 := by decide +kernel
    omega
  | cons t ts =>
    have := join_length_add (t :: ts) (by simp)
    omega
theorem tupleText_le (ts : List Str) : (tupleText ts).length ≤ 3 + piled ts := by
  unfold tupleText
  rw [strLen_append, strLen_append]
  have e1 : (Str.ofString "(").length = 1 := by decide
  have e2 : (Str.ofString (if (ts.length == 1) = true then ",)" else ")")).length ≤ 2 := by split <;> decide
  cases ts with
  | nil =>
    have : (Str.join ", " []).length = 0 := by decide +kernel
    omega
  | cons t ts =>
    have := join_length_add (t :: ts) (by simp)
    omega
theorem shown_int_le {i : Int} (h : logOk i) : (PyData.int i).shown.length ≤ 1921 := by
  rw [PyData.shown_int]
  exact PyProof.Rows.int_text_len_1921 h
theorem shown_pyP_le {p : MS.P} (h : logOk p.1 ∧ logOk p.2) : (pyP p).shown.length ≤ 3849 := by
  show (tupleText (PyData.shownAll [.int p.1, .int p.2])).length ≤ 3849
  have a := shown_int_le h.1
  have b := shown_int_le h.2
  have := tupleText_le (PyData.shownAll [.int p.1, .int p.2])
  rw [PyData.shownAll_cons, PyData.shownAll_cons, PyData.shownAll_nil, piled_cons, piled_cons, piled_nil] at this
  rw [PyData.shownAll_cons, PyData.shownAll_cons, PyData.shownAll_nil]
  omega
theorem piled_ps (l : List MS.P) (h : ∀ p ∈ l, logOk p.1 ∧ logOk p.2) : piled (PyData.shownAll (l.map pyP)) ≤ 3851 * l.length := by
  induction l with
  | nil => exact Nat.le_refl _
  | cons p l ih =>
    rw [List.map_cons, PyData.shownAll_cons, piled_cons, List.length_cons]
    have := ih fun q hq => h q (List.mem_cons_of_mem _ hq)
    have := shown_pyP_le (h p List.mem_cons_self)
    omega
theorem shown_ps_le (l : List MS.P) (h : ∀ p ∈ l, logOk p.1 ∧ logOk p.2) : (PyData.list (l.map pyP)).shown.length ≤ 2 + 3851 * l.length := by
  show (listText (PyData.shownAll (l.map pyP))).length ≤ _
  have := listText_le (PyData.shownAll (l.map pyP))
  have := piled_ps l h
  omega
theorem showable_ps (l : List MS.P) (h : ∀ p ∈ l, logOk p.1 ∧ logOk p.2) : PyData.showableAll (l.map pyP) = true := by
  induction l with
  | nil => rfl
  | cons p l ih =>
    show ((decide (p.1.natAbs.log2 < 1920) && (decide (p.2.natAbs.log2 < 1920) && true)) && PyData.showableAll (l.map pyP)) = true
    rw [ih fun q hq => h q (List.mem_cons_of_mem _ hq), decide_eq_true (show p.1.natAbs.log2 < 1920 from (h p List.mem_cons_self).1), decide_eq_true (show p.2.natAbs.log2 < 1920 from (h p List.mem_cons_self).2)]
    rfl
theorem nodict_ps (l : List MS.P) : PyData.hasDictAll (l.map pyP) = false := by
  induction l with
  | nil => rfl
  | cons p l ih =>
    show ((false || (false || false)) || PyData.hasDictAll (l.map pyP)) = false
    rw [ih]
    rfl
theorem repr_list {d : D} {xs : List PyData} (h : vw S d = some (.list xs)) (hd : ∀ i, d ≠ .int i) (h1 : PyData.showableAll xs = true) (h2 : PyData.hasDictAll xs = false) (h3 : PyData.depthAll xs ≤ 59) (h4 : (PyData.list xs).shown.length ≤ sizeLine) : reprD [d] S = some (.str (PyData.list xs).shown) := by
  unfold reprD
  split
  · rename_i i e
    cases e
    exact absurd rfl (hd i)
  · rename_i e
    cases e
    cases h
  · rename_i d' _ _ e
    cases e
    rw [h]
    show (if PyData.showable (.list xs) = true ∧ PyData.hasDict (.list xs) = false ∧ PyData.depth (.list xs) ≤ 60 ∧ (PyData.list xs).shown.length ≤ sizeLine then some (D.str (PyData.list xs).shown) else none) = _
    exact if_pos ⟨h1, h2, by show PyData.depthAll xs + 1 ≤ 60; omega, h4⟩
  · rename_i e1 e2 e3
    exact absurd rfl (e3 d)
theorem repr_ps (l : List MS.P) (h : ∀ p ∈ l, logOk p.1 ∧ logOk p.2) (hz : l.length ≤ 4000) : reprD [.lst (l.map encP)] S = some (.str (PyData.list (l.map pyP)).shown) :=
  repr_list (vw_ps l) (fun i e => by cases e) (showable_ps l h) (nodict_ps l) (by have := depth_ps l; omega) (by have := shown_ps_le l h; have : sizeLine = 16777216 := by decide
                                                                                                                 omega)
end
end DL
end
section
set_option maxHeartbeats 4000000
/-! DLo: lists of numbers compared, searched; numbers written; places of addresses. -/
namespace DL
open PySem PySem.Spec L2
open PyProof.Rows hiding St
section
variable {S S1 : Cells}
theorem toPyI (l : List Int) : toPyL (l.map D.int) = some (l.map PyData.int) := by
  induction l with
  | nil => rfl
  | cons p l ih =>
    show (match toPy (.int p), toPyL (l.map D.int) with
      | some e, some es => some (e :: es)
      | _, _ => none) = _
    rw [ih]
    rfl
theorem flatL_is (l : List Int) : flatL (l.map D.int) = true := by
  unfold flatL
  rw [List.all_map, List.all_eq_true]
  exact fun p _ => by simp
theorem flat_is (l : List Int) : (D.lst (l.map D.int)).flat = true := by rw [flat_lst, flatL_is]
theorem lay_is (l : List Int) : PyData.canLayAll0 (l.map PyData.int) = true := by
  induction l with
  | nil => rfl
  | cons p l ih =>
    show (true && PyData.canLayAll0 (l.map PyData.int)) = true
    rw [ih]
    rfl
theorem depth_is (l : List Int) : PyData.depthAll (l.map PyData.int) = 0 := by
  induction l with
  | nil => rfl
  | cons p l ih =>
    show max 0 (PyData.depthAll (l.map PyData.int)) = 0
    rw [ih]
    rfl
theorem shaped_is (l : List Int) : SeqAt.shaped (.list (l.map PyData.int)) = true := by
  show (PyData.canLayAll0 (l.map PyData.int) && decide (PyData.depthAll (l.map PyData.int) + 1 ≤ 64)) = true
  rw [lay_is, depth_is]
  rfl
theorem eqv_is : ∀ (l m : List Int), PyData.eqvAll (l.map PyData.int) (m.map PyData.int) = decide (l = m)
  | [], [] => rfl
  | [], _ :: _ => rfl
  | _ :: _, [] => rfl
  | p :: l, q :: m => by
    show ((p == q) && PyData.eqvAll (l.map PyData.int) (m.map PyData.int)) = _
    rw [eqv_is l m, Bool.eq_iff_iff]
    simp
theorem vw_is (l : List Int) : vw S (.lst (l.map D.int)) = some (.list (l.map PyData.int)) := by
  unfold vw
  rw [resv_flat _ _ _ (flat_is l)]
  show (match toPyL (l.map D.int) with
    | some m => some (PyData.list m)
    | none => none) = _
  rw [toPyI]
theorem dNe_is (l m : List Int) : dNe (.lst (l.map .int)) (.lst (m.map .int)) S = some (.bl (!decide (l = m))) := by
  show (eqP _ _ S).map (fun b => D.bl (!b)) = _
  rw [eqP_of (vw_is l) (vw_is m) (shaped_is l) (shaped_is m)]
  show some (D.bl (!PyData.eqvAll _ _)) = _
  rw [eqv_is]
theorem inP_is (l : List Int) (a : Int) : inP (.int a) (.lst (l.map .int)) S = some (decide (a ∈ l)) := by
  unfold inP
  rw [vw_is]
  show (if SeqAt.shaped (.int a) = true ∧ SeqAt.shaped (.list (l.map PyData.int)) = true then some ((l.map PyData.int).any fun z => PyData.eqv z (.int a)) else none) = _
  rw [if_pos ⟨rfl, shaped_is l⟩, List.any_map]
  congr 1
  rw [Bool.eq_iff_iff]
  simp only [List.any_eq_true, Function.comp, decide_eq_true_eq]
  constructor
  · rintro ⟨x, hx, e⟩
    have e : (x == a) = true := e
    rw [beq_iff_eq] at e
    exact e ▸ hx
  · intro h
    exact ⟨a, h, by show (a == a) = true; simp⟩
theorem dIn_is (l : List Int) (a : Int) : dIn (.int a) (.lst (l.map .int)) S = some (.bl (decide (a ∈ l))) := by
  unfold dIn
  rw [inP_is]
  rfl
theorem dNotIn_is (l : List Int) (a : Int) : dNotIn (.int a) (.lst (l.map .int)) S = some (.bl (!decide (a ∈ l))) := by
  unfold dNotIn
  rw [inP_is]
  rfl
theorem mIndex_is {l : List Int} {a : Int} {j : Nat} (h : l.findIdx? (· == a) = some j) : mIndex (.lst (l.map .int)) [.int a] S = some (.int (j : Nat), S) := by
  unfold mIndex
  have e : ixOf (.lst (l.map .int)) (.int a) S = some j := by
    unfold ixOf
    rw [vw_is]
    show (if SeqAt.shaped (.list (l.map PyData.int)) = true ∧ SeqAt.shaped (.int a) = true then (l.map PyData.int).findIdx? (fun z => PyData.eqv z (.int a)) else none) = _
    rw [if_pos ⟨shaped_is l, rfl⟩, List.findIdx?_map]
    exact h
  show (ixOf (.lst (l.map .int)) (.int a) S).map _ = _
  rw [e]
  rfl
theorem repr_int {i : Int} (h : logOk i) : reprD [.int i] S = some (.str (toString i)) := by
  have z : (toString i : Str).length ≤ sizeLine := Nat.le_trans (PyProof.Rows.int_text_len_1921 h) (by decide)
  show (if i.natAbs.log2 < 1920 ∧ (toString i : Str).length ≤ sizeLine then some (D.str (toString i)) else none) = _
  exact if_pos ⟨h, z⟩
theorem repr_non : reprD [.non] S = some (.str "None") := rfl
theorem chT_ok {op op' : D → D → Cells → Option D} {a b c : M D} {x y z : D} {k k2 : Bool} (h1 : a S = .ok x S) (h2 : b S = .ok y S) (h3 : op x y S = some (.bl k)) (h4 : c S = .ok z S) (h5 : op' y z S = some (.bl k2)) : chT op op' a b c S = .ok (k && k2) S := by
  refine bd_ok (a := .bl (k && k2)) (S1 := S) ?_ (op_ok rfl)
  refine bd_ok h1 (bd_ok h2 (bd_ok (a := k) (op_ok (by show (op x y S).bind asB = _; rw [h3]; rfl)) ?_))
  cases k with
  | true => exact bd_ok h4 (op_ok (by simpa using h5))
  | false => rfl
end
end DL
namespace MS
/-- the place of an address in a scan -/
theorem rng_place (p : P) (a : Int) : (rng p).findIdx? (· == a) = if a ∈ rng p then some (dist a p.1).toNat else none := by
  by_cases h : a ∈ rng p
  · rw [if_pos h]
    have hl := rng_len p
    have hm := mem_rng.mp h
    obtain ⟨x, y⟩ := p
    simp only at hm hl ⊢
    have hd : (dist a x).toNat < (rng (x, y)).length := by
      have : dist a x ≤ dist y x := by unfold dist; split <;> split <;> omega
      have : 0 ≤ dist a x := by unfold dist; split <;> omega
      omega
    have key : ∀ j (hj : j < (rng (x, y)).length), (rng (x, y))[j] = if x ≤ y then x + (j : Nat) else x - (j : Nat) := fun j hj => by
      unfold rng
      split <;> simp
    rw [List.findIdx?_eq_some_iff_getElem]
    refine ⟨hd, ?_, fun j hj => ?_⟩
    · rw [key _ hd]
      simp only [beq_iff_eq]
      unfold dist
      split <;> split <;> omega
    · rw [key j (by omega)]
      simp only [beq_iff_eq]
      unfold dist at hj
      split at hj <;> split <;> omega
  · rw [if_neg h, List.findIdx?_eq_none_iff]
    intro x hx
    simp only [beq_eq_false_iff_ne, ne_eq]
    exact fun e => h (e ▸ hx)
def place (l : List P) (a : Int) : Option Nat := (reads l).findIdx? (· == a)
theorem place_cons (p : P) (l : List P) (a : Int) : place (p :: l) a = if a ∈ rng p then some (dist a p.1).toNat else (place l a).map (· + (rng p).length) := by
  unfold place
  show (rng p ++ reads l).findIdx? _ = _
  rw [List.findIdx?_append, rng_place]
  split <;> rfl
theorem place_none {l : List P} {a : Int} : place l a = none ↔ a ∉ reads l := by
  unfold place
  rw [List.findIdx?_eq_none_iff]
  constructor
  · intro h ha
    have := h a ha
    simp at this
  · intro h x hx
    simp only [beq_eq_false_iff_ne, ne_eq]
    exact fun e => h (e ▸ hx)
/-- the k-th address of a scan -/
theorem rng_get {p : P} {k : Nat} (h : k < (rng p).length) : (rng p)[k]? = some (p.1 + (if p.1 ≤ p.2 then 1 else -1) * (k : Nat)) := by
  rw [List.getElem?_eq_getElem h]
  congr 1
  obtain ⟨x, y⟩ := p
  simp only
  unfold rng
  split <;> simp <;> omega
end MS
end
section
set_option maxHeartbeats 4000000
/-! DLp: instances: attributes read and stored, instances made, properties, methods. -/
namespace DL
open PySem PySem.Spec L2
open PyProof.Rows hiding St
section
variable {K : PySem.W.Frag} {T : Tab} {γ hid : List Addr} {F : Hp}
theorem zip_look {f : Str} {d : D} : ∀ {ns : List Str} {ds : List D} {vs : List V}, RpL K T γ F ds vs → (ns.zip ds).lookup f = some d → ∃ v, (ns.zip vs).lookup f = some v ∧ Rp K T γ F d v
  | [], _, _, _, e => by simp at e
  | n :: ns, [], _, _, e => by simp at e
  | n :: ns, x :: ds, _, h, e => by
    cases h with
    | @cons _ _ v vs a b =>
      rw [List.zip_cons_cons, List.lookup_cons] at e
      rw [List.zip_cons_cons, List.lookup_cons]
      cases q : (f == n) with
      | true =>
        rw [q] at e
        cases e
        exact ⟨v, rfl, a⟩
      | false =>
        rw [q] at e
        exact zip_look b e
theorem pair_look {f : Str} {d : D} : ∀ {fs : List (Str × D)} {gs : List (Str × V)}, fs.map (·.1) = gs.map (·.1) → RpL K T γ F (fs.map (·.2)) (gs.map (·.2)) → fs.lookup f = some d → ∃ v, gs.lookup f = some v ∧ Rp K T γ F d v
  | [], _, _, _, e => by simp at e
  | (n, x) :: fs, [], h, _, _ => by simp at h
  | (n, x) :: fs, (m, y) :: gs, h, r, e => by
    have h : n :: fs.map (·.1) = m :: gs.map (·.1) := h
    injection h with h1 h2
    subst h1
    have r : RpL K T γ F (x :: fs.map (·.2)) (y :: gs.map (·.2)) := r
    cases r with
    | cons a b =>
      rw [List.lookup_cons] at e ⊢
      cases q : (f == n) with
      | true =>
        rw [q] at e
        cases e
        exact ⟨y, rfl, a⟩
      | false =>
        rw [q] at e
        exact pair_look h2 b e
/-- an attribute of an instance -/
def fldD (NM : Nat → List Str) (cs : List Nat) (f : Str) (d : D) (S : Cells) : Option D := match d with
  | .obj c l => if c ∈ cs then ((NM c).zip l).lookup f else none
  | .ref n => match S[n]? with
    | some ⟨_, .ins c fs⟩ => if c ∈ cs then fs.lookup f else none
    | _ => none
  | _ => none
def putD (f : Str) (v : D) : List (Str × D) → List (Str × D)
  | [] => [(f, v)]
  | (g, x) :: r => if g = f then (g, v) :: r else (g, x) :: putD f v r
theorem putD_rep {f : Str} {d : D} {v : V} (r : Rp K T γ F d v) : ∀ {fs : List (Str × D)} {gs : List (Str × V)}, fs.map (·.1) = gs.map (·.1) → RpL K T γ F (fs.map (·.2)) (gs.map (·.2)) → (putD f d fs).map (·.1) = (putF f v gs).map (·.1) ∧ RpL K T γ F ((putD f d fs).map (·.2)) ((putF f v gs).map (·.2))
  | [], [], _, _ => ⟨rfl, .cons r .nil⟩
  | [], _ :: _, h, _ => by simp at h
  | _ :: _, [], h, _ => by simp at h
  | (n, x) :: fs, (m, y) :: gs, h, q => by
    have h : n :: fs.map (·.1) = m :: gs.map (·.1) := h
    injection h with h1 h2
    subst h1
    have q : RpL K T γ F (x :: fs.map (·.2)) (y :: gs.map (·.2)) := q
    cases q with
    | cons a b =>
      unfold putD putF
      by_cases e : n = f
      · rw [if_pos e, if_pos e]
        exact ⟨by show n :: _ = n :: _; rw [h2], .cons r b⟩
      · rw [if_neg e, if_neg e]
        obtain ⟨i1, i2⟩ := putD_rep r h2 b
        exact ⟨by show n :: _ = n :: _; rw [i1], .cons a i2⟩
end
section
variable {X : Cx} {T : Tab} {EE : XX} {e o : Expr} {es : List Expr} {fe fo : En → M D} {fs : En → M (List D)} {f x : Str} {pos pos' p : Pos} {NM : Nat → List Str} {cs : List Nat}
theorem ev_fld (NM : Nat → List Str) (cs : List Nat) (hT : T.N = NM) (hc : ∀ c ∈ cs, Cls X.K (T.C c) ∧ NoAttr X.K (T.C c) f) (he : EvE X T EE e fe) (hb : attributeBase e f X.env (eval e X.env) = eval e X.env := by rfl) :
    EvE X T EE (.Attribute e f pos) (fun ρ => M.bind (fe ρ) fun d => M.opt (fldD NM cs f d)) := by
  refine ⟨(pe_fld he.pe hb).dimp fun σ H Q h => ?_⟩
  refine (show dG X.K T EE (repE X.K T) fe σ H _ from ?_)
  obtain ⟨_, _, _, _, h1, h2, h3⟩ := bindD (rep := repE X.K T) h
  refine ⟨_, _, _, _, h1, h2, h3.imp fun v H1 ⟨d, γ1, hid, S1, ρ, q1, q3, q4, q5⟩ => ?_⟩
  obtain ⟨y, ey, w⟩ := opt_ok q5
  unfold fldD at ey
  split at ey
  · split at ey
    · rename_i c l hcs
      cases q4 with
      | obj a z b =>
        rw [← hT] at ey
        obtain ⟨u, e1, e2⟩ := zip_look b ey
        exact ⟨_, _, _, _, u, rfl, out_sub _ _ _ _ _ _ a, (hc c hcs).1, (hc c hcs).2, e1, w γ1 H1 u q1 (Ext.refl _ _ _) e2⟩
    · cases ey
  · rename_i n
    split at ey
    · rename_i b c fs' en
      split at ey
      · rename_i hcs
        cases q4 with
        | ref a =>
          obtain ⟨ob, eo, cr⟩ := q1.cell n _ _ a en
          cases cr with
          | ins k1 k2 =>
            obtain ⟨u, e1, e2⟩ := pair_look k1 k2 ey
            exact ⟨_, _, _, _, u, rfl, eo, (hc c hcs).1, (hc c hcs).2, e1, w γ1 H1 u q1 (Ext.refl _ _ _) (Rp.nil_any (fun _ _ z => z) e2)⟩
      · cases ey
    · cases ey
  · cases ey
def setFD (cs : List Nat) (f : Str) (d y : D) (S : Cells) : Option Cells := match d with
  | .ref n => match S[n]? with
    | some ⟨true, .ins c fs⟩ => if c ∈ cs ∧ y.flat = true ∧ fs.length < 1000 then some (S.set n ⟨true, .ins c (putD f y fs)⟩) else none
    | _ => none
  | _ => none
def fldS (cs : List Nat) (f : Str) (fv fo : En → M D) : SM := bindS fv fun y => bindS fo fun d ρ S => match setFD cs f d y S with
  | some S' => .nx ρ S'
  | none => .stuck
/-- o.f = e -/
theorem es_fld (cs : List Nat) (hc : ∀ c ∈ cs, Cls X.K (T.C c) ∧ NoAttr X.K (T.C c) f) (he : EvE X T EE e fe) (ho : EvE X T EE o fo) (hs : swapsWith e (some (.Attribute o f pos')) pos.line X.env = pure false := by rfl) :
    EvS X T EE (.Assign [.Attribute o f pos'] e pos) (fldS cs f fe fo) := by
  refine ⟨(ps_fld ho.pe he.pe hs).dimp fun Dn σ H h => ?_⟩
  refine (show dG X.K T EE (repE X.K T) fe σ H _ from ?_)
  obtain ⟨γ, hid, S, ρ, hold, env, h⟩ := h
  obtain ⟨_, _, _, _, h1, h2, h3⟩ := bindSR (rep := repE X.K T) hold env h
  refine ⟨_, _, _, _, h1, h2, h3.imp fun vy H1 ⟨y, γ1, S1, q1, q2, q3, q4, q5⟩ => ?_⟩
  refine (show dG X.K T EE (repE X.K T) fo σ H1 _ from ?_)
  obtain ⟨_, _, _, _, h1, h2, h3⟩ := bindSR (rep := repE X.K T) q1 q3 q5
  refine ⟨_, _, _, _, h1, h2, h3.imp fun vo H2 ⟨d, γ2, S2, w1, w2, w3, w4, w5⟩ => ?_⟩
  cases es : setFD cs f d y S2 with
  | none =>
    simp only [es] at w5
    exact w5.elim
  | some S' =>
    simp only [es] at w5
    unfold setFD at es
    split at es
    · rename_i n
      split at es
      · rename_i c fs' en
        split at es
        · rename_i hz
          cases es
          cases w4 with
          | ref a =>
            obtain ⟨ob, eo, cr⟩ := w1.cell n _ _ a en
            cases cr with
            | ins k1 k2 =>
              rename_i dx gs
              have ry := Rp.toflat _ _ hz.2.1 (w2.rp q4)
              obtain ⟨i1, i2⟩ := putD_rep (f := f) ry k1 k2
              have gl : gs.length < 1000 := by
                have := congrArg List.length k1
                rw [List.length_map, List.length_map] at this
                omega
              obtain ⟨a1, a2⟩ := w1.write a en (.ins (dx := dx) i1 i2)
              exact ⟨_, _, dx, gs, rfl, eo, (hc c hz.1).1, (hc c hz.1).2, gl, w5 _ _ σ a1 a2 (w3.mono a2.pre (a2.sameH hid))⟩
        · cases es
      · cases es
    · cases es
/-! ### instances made -/
def mkEnd (NM : Nat → List Str) (c n0 : Nat) : R D → R D
  | .ok .non S' => match S'[n0]? with
    | some ⟨_, .ins c' fs⟩ => if c' = c ∧ fs.map (·.1) = NM c then .ok (.obj c (fs.map (·.2))) (S'.take n0) else .stuck
    | _ => .stuck
  | _ => .stuck
/-- C(..): __init__ with a new cell, which is read from then on -/
def makeD (NM : Nat → List Str) (c n : Nat) (g : List D → M D) (ds : List D) : M D := fun S => if ds.length + 1 = n then mkEnd NM c S.length (g (.ref S.length :: ds) (S ++ [⟨true, .ins c []⟩])) else .stuck
theorem mkEnd_ok {c n0 : Nat} {r : R D} {d : D} {S' : Cells} (e : mkEnd NM c n0 r = .ok d S') : ∃ S1 b fs, r = .ok .non S1 ∧ S1[n0]? = some ⟨b, .ins c fs⟩ ∧ fs.map (·.1) = NM c ∧ d = .obj c (fs.map (·.2)) ∧ S' = S1.take n0 := by
  cases r with
  | err x S => exact absurd e (by intro z; cases z)
  | stuck => exact absurd e (by intro z; cases z)
  | ok d1 S1 =>
    cases d1 with
    | non =>
      have e : (match S1[n0]? with
        | some ⟨_, .ins c' fs⟩ => if c' = c ∧ fs.map (·.1) = NM c then .ok (.obj c (fs.map (·.2))) (S1.take n0) else .stuck
        | _ => .stuck : R D) = .ok d S' := e
      split at e
      · rename_i b c' fs en
        split at e
        · rename_i hz
          obtain ⟨rfl, hz2⟩ := hz
          cases e
          exact ⟨S1, b, fs, rfl, en, hz2, rfl, rfl⟩
        · cases e
      · cases e
    | _ => exact absurd e (by intro z; cases z)
theorem ins_frozen {K : PySem.W.Frag} {γ hid : List Addr} {S : Cells} {H : Hp} {n0 c : Nat} {a : Addr} {b : Bool} {fs : List (Str × D)} (h : Hold K T γ hid S H) (hT : T.N = NM) (ea : γ[n0]? = some a) (en : S[n0]? = some ⟨b, .ins c fs⟩) (hn : fs.map (·.1) = NM c) :
    Rp K T (γ.take n0) (out (γ.take n0) (S.take n0) hid H) (.obj c (fs.map (·.2))) (.ref a) := by
  obtain ⟨ob, eo, cr⟩ := h.cell n0 a _ ea en
  cases cr with
  | ins k1 k2 =>
    rename_i dx gs
    have ez : (T.N c).zip (gs.map (·.2)) = gs := by
      rw [hT, ← hn, k1]
      clear k1 k2 eo
      induction gs with
      | nil => rfl
      | cons g gs ih => simp [ih]
    have nl : liveAt (γ.take n0) (S.take n0) a = false := live_no fun hm => by
      obtain ⟨m, hm⟩ := List.mem_iff_getElem?.mp hm
      obtain ⟨h3, h4⟩ := getElem?_take_some hm
      have := nd_ix h.nd ea h3
      omega
    refine .obj (dx := dx) (vs := gs.map (·.2)) (out_some.mpr ⟨fun z => h.hidG _ z (List.mem_of_getElem? ea), nl, by rw [ez]; exact eo⟩) ?_ (k2.nil_any ((h.cut n0).2 hid))
    rw [List.length_map, hT, ← hn, k1, List.length_map]
theorem ev_make {c k n : Nat} {g : List D → M D} {fa : Addr} {fd : FuncData} {ps : List Str} (hM : Mk X.K (T.C c) fa) (F : FnG X.prog X.w X.K X.mg X.base k fa fd ps (spD X.K T n g)) (hT : T.N = NM) (hr : Room (k + 1) X.A) (nr : NoRepr X.A) (hg : Gl X x) (hm : X.mg x = some (.ref (T.C c))) (hb : Binds X.K fd ps [])
    (ha : EvA X T EE (e :: es) fs) (hdb : (x == ("__debug__" : Str)) = false := by decide) (he : starEach (e :: es) X.env = (false, eval e X.env) :: starEach es X.env := by rfl) (hpl : (backTo pos (starEach es X.env)).any (·.1) = false := by rfl) :
    EvE X T EE (.Call (.Name x p) (e :: es) [] pos) (fun ρ => M.bind (fs ρ) fun ds => makeD NM c n g ds) := by
  refine ⟨(pg_make (E := E0) hM F hr nr hg hm hb ha.pa hdb he hpl).dimp fun σ H Q h => ?_⟩
  refine (show dG X.K T EE (repA X.K T) fs σ H _ from ?_)
  obtain ⟨_, _, _, _, h1, h2, h3⟩ := bindD (rep := repA X.K T) h
  refine ⟨_, _, _, _, h1, h2, h3.imp fun vs H1 ⟨ds, γ1, hid, S1, ρ, q1, q3, q4, q5⟩ => ?_⟩
  intro y dx ny nd hne
  have q5 : resG X.K T EE (repE X.K T) γ1 hid S1 H1 ρ σ (makeD NM c n g ds S1) Q := q5
  unfold makeD at q5
  split at q5
  · rename_i hlen
    cases em : mkEnd NM c S1.length (g (.ref S1.length :: ds) (S1 ++ [⟨true, .ins c []⟩])) with
    | err x S => exact absurd em (by
        intro z
        cases er : g (.ref S1.length :: ds) (S1 ++ [⟨true, .ins c []⟩]) with
        | ok d S2 =>
          rw [er] at z
          cases d with
          | non =>
            have z : (match S2[S1.length]? with
              | some ⟨_, .ins c' fs⟩ => if c' = c ∧ fs.map (·.1) = NM c then .ok (.obj c (fs.map (·.2))) (S2.take S1.length) else .stuck
              | _ => .stuck : R D) = _ := z
            split at z
            · split at z <;> cases z
            · cases z
          | _ => cases z
        | err _ _ => rw [er] at z; cases z
        | stuck => rw [er] at z; cases z)
    | stuck => rw [em] at q5; exact q5.elim
    | ok d S' =>
      rw [em] at q5
      obtain ⟨S2, b, gs, er, en, hn, rfl, rfl⟩ := mkEnd_ok em
      obtain ⟨a1, a2, _⟩ := q1.lay nd (.own y)
      have ny2 : (upd H1 dx (.own y)) y = none := by rw [upd_ne (Ne.symm hne)]; exact ny
      obtain ⟨c1, c2⟩ := a1.newCell ny2 (c := .ins c []) (o := .ins (T.C c) dx []) (.ins rfl .nil)
      have ext := a2.trans c2
      have hl : γ1.length = S1.length := q1.len
      have gy : (γ1 ++ [y])[S1.length]? = some y := by rw [← hl]; simp
      refine ⟨_, hid, _, .ref S1.length :: ds, c1, .cons (.ref gy) (by rw [List.append_nil]; exact ext.rpl q4), by simpa using hlen, _, _, er, fun γ' H' v h1 h2 h3 => ?_⟩
      cases h3
      refine ⟨rfl, ?_⟩
      obtain ⟨e1, e2⟩ := Ext.cut q1 h1 (ext.trans h2)
      exact q5 _ H' _ (h1.cut _).1 e2 (ins_frozen h1 hT (h2.pre _ _ gy) en hn)
  · exact q5.elim
end
end DL
namespace DL
open PySem PySem.Spec L2
open PyProof.Rows hiding St
section
variable {X : Cx} {T : Tab} {EE : XX} {e o : Expr} {es : List Expr} {fe fo : En → M D} {fs : En → M (List D)} {f m : Str} {pos apos : Pos} {NM : Nat → List Str} {k n c : Nat} {g : List D → M D} {fa pa : Addr} {fd : FuncData} {ps : List Str}
/-- an instance of the class c (it has no attribute m) -/
def isC (NM : Nat → List Str) (c : Nat) (m : Str) (d : D) (_ : Cells) : Option Unit := match d with
  | .obj c' _ => if c' = c ∧ m ∉ NM c then some () else none
  | _ => none
theorem zip_no {f : Str} : ∀ {ns : List Str} {vs : List V}, f ∉ ns → (ns.zip vs).lookup f = none
  | [], _, _ => rfl
  | _ :: _, [], _ => rfl
  | n :: ns, v :: vs, h => by
    rw [List.zip_cons_cons, List.lookup_cons]
    have : (f == n) = false := by
      rw [beq_eq_false_iff_ne]
      exact fun e => h (by rw [e]; exact List.mem_cons_self)
    rw [this]
    exact zip_no fun z => h (List.mem_cons_of_mem _ z)
theorem isC_ok {K : PySem.W.Frag} {γ hid : List Addr} {S : Cells} {H : Hp} {d : D} {v : V} (hT : T.N = NM) (r : Rp K T γ (out γ S hid H) d v) (e : isC NM c m d S = some ()) : ∃ a dx fs, v = .ref a ∧ H a = some (.ins (T.C c) dx fs) ∧ fs.lookup m = none := by
  unfold isC at e
  split at e
  · split at e
    · rename_i hz
      obtain ⟨rfl, hn⟩ := hz
      cases r with
      | obj a z b => exact ⟨_, _, _, rfl, out_sub _ _ _ _ _ _ a, zip_no (by rw [hT]; exact hn)⟩
    · cases e
  · cases e
/-- o.m(e, ..), m a def of o's class -/
theorem ev_mt {pl : Sem Bool} (hT : T.N = NM) (ho : EvE X T EE o fo) (hc : Cls X.K (T.C c)) (hm : Meth X.K (T.C c) m fa) (F : FnG X.prog X.w X.K X.mg X.base k fa fd ps (spD X.K T n g)) (hr : Room k X.A) (nr : NoRepr X.A) (hb : Binds X.K fd ps []) (ha : EvA X T EE (e :: es) fs)
    (hst : starEach (e :: es) X.env = (false, eval e X.env) :: starEach es X.env := by rfl) (hpl : (backTo pos (starEach es X.env)).any (·.1) = false := by rfl)
    (ht : eval (.Call (.Attribute o m apos) (e :: es) [] pos) X.env = (do
      let recv ← eval o X.env
      standAt apos.atName
      let (g, h) ← holding [recv] (getMethod recv m pl)
      callWith pos g h (backTo pos (starEach (e :: es) X.env)) (backToKw pos (keywordEach [] X.env))) := by rfl) :
    EvE X T EE (.Call (.Attribute o m apos) (e :: es) [] pos) (fun ρ => M.bind (fo ρ) fun d => M.bind (M.opt (isC NM c m d)) fun _ => M.bind (fs ρ) fun ds => calmM (arity n g (d :: ds))) := by
  refine ⟨(pg_meth (E := E0) ho.pe hc hm F hr nr hb ha.pa hst hpl ht).dimp fun σ H Q h => ?_⟩
  refine (show dG X.K T EE (repE X.K T) fo σ H _ from ?_)
  obtain ⟨γ, hid, S, ρ, hold, env, h⟩ := h
  obtain ⟨_, _, _, _, h1, h2, h3⟩ := bindR (rep := repE X.K T) hold env h
  refine ⟨_, _, _, _, h1, h2, h3.imp fun x H1 ⟨d1, γ1, S1, q1, q2, q3, q4, q5⟩ => ?_⟩
  cases et : isC NM c m d1 S1 with
  | none =>
    rw [bind_of_stuck (opt_none et)] at q5
    exact q5.elim
  | some u =>
    rw [bind_of_ok (opt_some et)] at q5
    obtain ⟨a, dx, gs, ex, ea, el⟩ := isC_ok hT q4 et
    refine ⟨a, dx, gs, ex, ea, el, ?_⟩
    refine (show dG X.K T EE (repA X.K T) fs σ H1 _ from ?_)
    obtain ⟨_, _, _, _, h1, h2, h3⟩ := bindR (rep := repA X.K T) q1 q3 q5
    refine ⟨_, _, _, _, h1, h2, h3.imp fun vs H2 ⟨ds, γ2, S2, w1, w2, w3, w4, w5⟩ => ?_⟩
    have w5 : resG X.K T EE (repE X.K T) γ2 hid S2 H2 ρ σ (calmM (arity n g (d1 :: ds)) S2) Q := w5
    refine spD_arity ?_
    have rr : RpL X.K T γ2 (out γ2 S2 hid H2) (d1 :: ds) (x :: vs) := .cons (w2.rp q4) w4
    cases eg : arity n g (d1 :: ds) S2 with
    | err x S => unfold calmM at w5; rw [eg] at w5; exact w5.elim
    | stuck => unfold calmM at w5; rw [eg] at w5; exact w5.elim
    | ok d S' =>
      unfold calmM at w5
      rw [eg] at w5
      have hl : (d1 :: ds).length = n := by
        by_cases hn : (d1 :: ds).length = n
        · exact hn
        · unfold arity at eg
          rw [if_neg hn] at eg
          cases eg
      subst ex
      refine ⟨γ2, hid, S2, d1 :: ds, w1, by rw [List.append_nil]; exact rr, hl, d, S', eg, fun γ' H' v b1 b2 b3 => w5 γ' H' v b1 b2 b3⟩
/-- from what is wanted of a call to its promise -/
theorem sp_of {K : PySem.W.Frag} {γ hid : List Addr} {S : Cells} {H : Hp} {ρ : En} {σ : St} {Q : VK} {E : XK} {ds : List D} {vs : List V} (w : resG K T EE (repE K T) γ hid S H ρ σ (calmM (arity n g ds) S) Q) (h : Hold K T γ hid S H) (r : RpL K T γ (out γ S hid H) ds vs) : spD K T n g vs H Q E := by
  refine spD_arity ?_
  cases eg : arity n g ds S with
  | err x S => unfold calmM at w; rw [eg] at w; exact w.elim
  | stuck => unfold calmM at w; rw [eg] at w; exact w.elim
  | ok d S' =>
    unfold calmM at w
    rw [eg] at w
    have hl : ds.length = n := by
      by_cases hn : ds.length = n
      · exact hn
      · unfold arity at eg
        rw [if_neg hn] at eg
        cases eg
    exact ⟨γ, hid, S, ds, h, r, hl, d, S', eg, fun γ' H' v b1 b2 b3 => w γ' H' v b1 b2 b3⟩
theorem ev_mt0 {pl : Sem Bool} (hT : T.N = NM) (ho : EvE X T EE o fo) (hc : Cls X.K (T.C c)) (hm : Meth X.K (T.C c) m fa) (F : FnG X.prog X.w X.K X.mg X.base k fa fd ps (spD X.K T n g)) (hr : Room k X.A) (nr : NoRepr X.A) (hb : Binds X.K fd ps [])
    (ht : eval (.Call (.Attribute o m apos) [] [] pos) X.env = (do
      let recv ← eval o X.env
      standAt apos.atName
      let (g, h) ← holding [recv] (getMethod recv m pl)
      callWith pos g h (backTo pos (starEach [] X.env)) (backToKw pos (keywordEach [] X.env))) := by rfl) :
    EvE X T EE (.Call (.Attribute o m apos) [] [] pos) (fun ρ => M.bind (fo ρ) fun d => M.bind (M.opt (isC NM c m d)) fun _ => calmM (arity n g [d])) := by
  refine ⟨(pg_meth0 (E := E0) ho.pe hc hm F hr nr hb ht).dimp fun σ H Q h => ?_⟩
  refine (show dG X.K T EE (repE X.K T) fo σ H _ from ?_)
  obtain ⟨_, _, _, _, h1, h2, h3⟩ := bindD (rep := repE X.K T) h
  refine ⟨_, _, _, _, h1, h2, h3.imp fun x H1 ⟨d1, γ1, hid, S1, ρ, q1, q3, q4, q5⟩ => ?_⟩
  cases et : isC NM c m d1 S1 with
  | none =>
    rw [bind_of_stuck (opt_none et)] at q5
    exact q5.elim
  | some u =>
    rw [bind_of_ok (opt_some et)] at q5
    obtain ⟨a, dx, gs, ex, ea, el⟩ := isC_ok hT q4 et
    exact ⟨a, dx, gs, ex, ea, el, sp_of (E := E0) q5 q1 (.cons q4 .nil)⟩
/-- what a property's getter gives -/
theorem getP {pins : List (Addr × Obj)} {σ : St} {H : Hp} {s : Shared} {Q : VK} {b : Bool} {W : Value → Shared → Prop} {a dx C pr : Addr} {gs : List (Str × V)} {sp : Sp} {E : XK} (I : Inv X pins σ H s) (ea : H a = some (.ins C dx gs)) (hc : Cls X.K C) (hp : PropOf X.K C f pr fa)
    (F : FnG X.prog X.w X.K X.mg X.base k fa fd ps sp) (hr : Room (k + 1) X.A) (nr : NoRepr X.A) (hb : Binds X.K fd ps []) (h : sp [.ref a] H Q E) : wpAny (model X.prog X.w) X.A (getAttr (.ref a) f b) (EP X pins σ Q) W s := by
  obtain ⟨mA, ob, _, _, _, _⟩ := ins_get I.hok ea
  obtain ⟨od, at2, _⟩ := ob.look
  obtain ⟨rest, rc⟩ := hp.rec_
  have I2 := I.tok (s.toks + 1)
  have len : [Value.ref a].length = ps.length := F.len _ _ _ _ h
  have isc : (PySem.W.clsIn X.K C).isSome = true := by
    obtain ⟨cd, q, _⟩ := PySem.W.any_some hc.hd
    rw [q]
    rfl
  have bd := hb { s with toks := s.toks + 1 } [.ref a] I2.kIn (by rw [List.append_nil]; exact len)
  rw [List.append_nil] at bd
  refine PySem.W.get_bind I.kIn at2 (PySem.W.plainGet_of (hc.get f)).1 (PySem.W.findObj_data isc hp.at_ hp.get hp.tak) (PySem.W.plainGet_of (hc.get f)).2 (wpAny_call (PySem.W.prop_get (s := { s with toks := s.toks + 1 }) I.kIn rc ?_))
  refine codeAny_mono (F.run X.A.in1 X.stack { s with toks := s.toks + 1 } H ⟨[.ref a], []⟩ [.ref a] [.ref a] Q E hr.in1 nr I2.env0.in1 bd (.cons rfl .nil) h) fun r t z => ?_
  cases r with
  | error er => exact False.elim z
  | ok flow =>
    cases flow with
    | ret u =>
      obtain ⟨v, H2, I3, rv, q3⟩ := I2.after z
      show wpAny _ _ (handedOut u) _ _ _
      rw [PySem.W.handedOut_of (handed_of rv)]
      exact wpAny_pure ⟨v, H2, I3, rv, q3⟩
    | next => exact False.elim z
    | brk => exact False.elim z
    | cont => exact False.elim z
/-- o.f, a property -/
theorem ev_prop {pr : Addr} (hT : T.N = NM) (ho : EvE X T EE o fo) (hc : Cls X.K (T.C c)) (hp : PropOf X.K (T.C c) f pr fa) (F : FnG X.prog X.w X.K X.mg X.base k fa fd ps (spD X.K T n g)) (hr : Room (k + 1) X.A) (nr : NoRepr X.A) (hb : Binds X.K fd ps [])
    (hab : attributeBase o f X.env (eval o X.env) = eval o X.env := by rfl) : EvE X T EE (.Attribute o f pos) (fun ρ => M.bind (fo ρ) fun d => M.bind (M.opt (isC NM c f d)) fun _ => calmM (arity n g [d])) := by
  refine ⟨⟨fun pins s σ H Q I h => ?_⟩⟩
  obtain ⟨_, _, _, _, h1, h2, h3⟩ := bindD (rep := repE X.K T) h
  refine attr_of hab (thn (ho.pe.run pins s σ H _ I ⟨_, _, _, _, h1, h2, h3⟩) fun u s1 ⟨x, H1, I1, rx, d1, γ1, hid, S1, ρ, q1, q3, q4, q5⟩ => ?_)
  cases et : isC NM c f d1 S1 with
  | none =>
    rw [bind_of_stuck (opt_none et)] at q5
    exact q5.elim
  | some w =>
    rw [bind_of_ok (opt_some et)] at q5
    obtain ⟨a, dx, gs, rfl, ea, el⟩ := isC_ok hT q4 et
    obtain rfl : u = Value.ref a := rx
    exact getP (E := E0) I1 ea hc hp F hr nr hb (sp_of q5 q1 (.cons q4 .nil))
end
end DL
end
section
set_option maxHeartbeats 4000000
/-! DLq: the head's facts for classes with properties: defs by an address of one's own, properties. -/
namespace DL
open PySem PySem.Spec L2
open PyProof.Rows hiding St
/-- a property: its class by name, its own name -/
structure PrD where
  cls : Str
  name : Str
def prA (K : PySem.W.Frag) (p : PrD) : Addr := match PySem.W.findIn K (.ref (He.ga K p.cls)) p.name with
  | some (some (.ref a)) => a
  | _ => 0
/-- its getter -/
def prG (K : PySem.W.Frag) (p : PrD) : Addr := match PySem.W.recIn K (prA K p) "property" with
  | some (.ref g :: _) => g
  | _ => 0
def prOk (K : PySem.W.Frag) (p : PrD) : Bool := decide (PySem.W.findIn K (.ref (He.ga K p.cls)) p.name = some (some (.ref (prA K p)))) &&
  (decide (PySem.W.specialIn K (.ref (prA K p)) "__get__" = some (some (.builtin "property.__get__"))) && (decide (PySem.W.takesIn K (.ref (prA K p)) = some true) && (match PySem.W.recIn K (prA K p) "property" with
    | some (.ref g :: _) => decide (g = prG K p)
    | _ => false)))
theorem prOk_ok {K : PySem.W.Frag} {p : PrD} (h : prOk K p = true) : PropOf K (He.ga K p.cls) p.name (prA K p) (prG K p) := by
  unfold prOk at h
  simp only [Bool.and_eq_true, decide_eq_true_eq] at h
  obtain ⟨h1, h2, h3, h4⟩ := h
  refine ⟨h1, h2, h3, ?_⟩
  split at h4
  · rename_i g rest e
    rw [decide_eq_true_eq] at h4
    rw [h4] at e
    exact ⟨rest, e⟩
  · cases h4
/-- one def without defaults, by an address of one's own -/
structure DefQ where
  ad : PySem.W.Frag → Addr
  name : Str
  qual : Str
  params : Arguments
  body : List Stmt
  scope : Scope
def fnQ (K : PySem.W.Frag) (d : DefQ) : He.FnW := match K.lookup (d.ad K) with
  | some ⟨_, _, .func q, _⟩ => some (q.name, q.qualname, q.params, q.body, q.scope, q.globals, q.closure, q.builtins)
  | _ => none
def DefQ.val (d : DefQ) : He.FnW := some (d.name, d.qual, d.params, .stmts d.body, d.scope, mainGlobals, [], builtinsNs)
def DefQ.ok (K : PySem.W.Frag) (d : DefQ) : Bool := PySem.W.keepIn K (.ref (d.ad K)) && (match K.lookup (d.ad K) with
  | some ⟨_, _, .func q, _⟩ => PySem.W.codeIn K q.code d.qual && (He.dflB K q.defaults [] && He.kwdB K q.kwdefaults [])
  | _ => false)
theorem DefQ.funD {K : PySem.W.Frag} {d : DefQ} (e : fnQ K d = d.val) (h : d.ok K = true) : ∃ fd, FunD K d.name d.qual d.params d.body d.scope [] [] (d.ad K) fd := by
  unfold DefQ.ok at h
  rw [Bool.and_eq_true] at h
  obtain ⟨kp, h2⟩ := h
  unfold fnQ at e
  cases q : K.lookup (d.ad K) with
  | none =>
    rw [q] at h2
    cases h2
  | some o =>
    obtain ⟨oc, od, dt, sl⟩ := o
    rw [q] at h2 e
    cases dt with
    | func fd =>
      obtain ⟨a1, a2, a3, a4, a5, a6, a7, a8, a9, a10, a11, a12, a13, a14, a15⟩ := fd
      have e2 : (some (a1, a2, a3, a4, a5, a6, a7, a15) : He.FnW) = some (d.name, d.qual, d.params, .stmts d.body, d.scope, mainGlobals, [], builtinsNs) := e
      simp only [Option.some.injEq, Prod.mk.injEq] at e2
      obtain ⟨r1, r2, r3, r4, r5, r6, r7, r8⟩ := e2
      subst r1 r2 r3 r4 r5 r6 r7 r8
      have h3 : (PySem.W.codeIn K a13 d.qual && (He.dflB K a8 [] && He.kwdB K a9 [])) = true := h2
      rw [Bool.and_eq_true, Bool.and_eq_true] at h3
      exact ⟨_, ⟨oc, od, a8, a9, a10, a11, a12, a13, a14, sl, rfl, q, h3.1, He.dflB_ok h3.2.1, He.kwdB_ok h3.2.2⟩, kp⟩
    | _ => cases h2
/-! the observation: facts, properties, defs -/
abbrev AlQ : Type := Bool × List He.FnW
def obsQ (fa : List He.Fa) (pr : List PrD) (fn : List DefQ) (K : PySem.W.Frag) : AlQ := ((fa.all fun f => f.ok K) && ((pr.all fun p => prOk K p) && fn.all fun d => d.ok K), fn.map fun d => fnQ K d)
def valQ (fn : List DefQ) : AlQ := (true, fn.map DefQ.val)
def SaysQ (fa : List He.Fa) (pr : List PrD) (fn : List DefQ) (K : PySem.W.Frag) : Prop := obsQ fa pr fn K = valQ fn
def obsQG (n : Nat) (fa : List He.Fa) (pr : List PrD) (fn : List DefQ) (g : Addr → Option Obj) : AlQ := obsQ fa pr fn (He.frG g (He.asD g n))
def hookQ (n : Nat) (fa : List He.Fa) (pr : List PrD) (fn : List DefQ) : PySem.W.Hook where
  α := AlQ
  obs := fun s => obsQG n fa pr fn s.heap.get?
  val := fun _ => valQ fn
  says := fun _ h => ∃ K : PySem.W.Frag, K.In h ∧ SaysQ fa pr fn K
  of := fun _ _ e => ⟨_, He.frG_in, e⟩
  keeps := fun _ _ _ ⟨K, hK, c⟩ k => ⟨K, PySem.W.Frag.In.keeps hK k, c⟩
theorem obsQG_eq {n : Nat} {fa : List He.Fa} {pr : List PrD} {fn : List DefQ} {g : Addr → Option Obj} {s : Shared} (h : ∀ a, g a = s.heap.get? a) : obsQG n fa pr fn g = (hookQ n fa pr fn).obs s := by
  have e : g = s.heap.get? := funext h
  rw [e]
  rfl
section
variable {fa : List He.Fa} {pr : List PrD} {fn : List DefQ} {K : PySem.W.Frag}
theorem SaysQ.all (c : SaysQ fa pr fn K) : ((fa.all fun f => f.ok K) && ((pr.all fun p => prOk K p) && fn.all fun d => d.ok K)) = true := congrArg (fun z : AlQ => z.1) c
theorem SaysQ.fact (c : SaysQ fa pr fn K) (i : Nat) {f : He.Fa} (h : fa[i]? = some f := by rfl) : f.ok K = true := by
  have := c.all
  rw [Bool.and_eq_true] at this
  exact List.all_eq_true.mp this.1 f (List.mem_of_getElem? h)
theorem SaysQ.prop (c : SaysQ fa pr fn K) (i : Nat) {p : PrD} (h : pr[i]? = some p := by rfl) : PropOf K (He.ga K p.cls) p.name (prA K p) (prG K p) := by
  have := c.all
  rw [Bool.and_eq_true, Bool.and_eq_true] at this
  exact prOk_ok (List.all_eq_true.mp this.2.1 p (List.mem_of_getElem? h))
theorem SaysQ.def_ (c : SaysQ fa pr fn K) (i : Nat) {d : DefQ} (h : fn[i]? = some d := by rfl) : ∃ fd, FunD K d.name d.qual d.params d.body d.scope [] [] (d.ad K) fd := by
  have q := c.all
  rw [Bool.and_eq_true, Bool.and_eq_true] at q
  have e : fn.map (fun d => fnQ K d) = fn.map DefQ.val := congrArg (fun z : AlQ => z.2) c
  have e2 : (fn.map fun d => fnQ K d)[i]? = (fn.map DefQ.val)[i]? := by rw [e]
  rw [List.getElem?_map, List.getElem?_map, h] at e2
  exact DefQ.funD (Option.some.inj e2) (List.all_eq_true.mp q.2.2 d (List.mem_of_getElem? h))
end
end DL
end
section
set_option maxHeartbeats 4000000
/-! DLr: operators whose meaning runs a def of the text (own ==). -/
namespace DL
open PySem PySem.Spec L2
open PyProof.Rows hiding St
/-- an operator by a reading -/
def rOM (K : PySem.W.Frag) (T : Tab) (op : D → D → M D) : V → V → Hp → VK → Prop := fun x y H Q => ∃ γ hid S d1 d2 d S', Hold K T γ hid S H ∧ Rp K T γ (out γ S hid H) d1 x ∧ Rp K T γ (out γ S hid H) d2 y ∧ op d1 d2 S = .ok d S' ∧ okV K T γ hid S H d S' Q
section
variable {X : Cx} {T : Tab} {EE : XX} {a b : Expr} {fa fb : En → M D} {pos : Pos}
theorem twoM {K : PySem.W.Frag} {op : D → D → M D} {σ : St} {H : Hp} {Q : VK} (h : dE K T EE (fun ρ => M.bind (fa ρ) fun x => M.bind (fb ρ) fun y => calmM (op x y)) σ H Q) : tOp (rOM K T op) (dE K T EE fa) (dE K T EE fb) σ H Q := by
  refine (show dG K T EE (repE K T) fa σ H _ from ?_)
  obtain ⟨γ, hid, S, ρ, hold, env, h⟩ := h
  obtain ⟨_, _, _, _, h1, h2, h3⟩ := bindR (rep := repE K T) hold env h
  refine ⟨_, _, _, _, h1, h2, h3.imp fun x H1 ⟨d1, γ1, S1, q1, q2, q3, q4, q5⟩ => ?_⟩
  obtain ⟨_, _, _, _, h1, h2, h3⟩ := bindR (rep := repE K T) q1 q3 q5
  refine ⟨_, _, _, _, h1, h2, h3.imp fun y H2 ⟨d2, γ2, S2, w1, w2, w3, w4, w5⟩ => ?_⟩
  cases eg : op d1 d2 S2 with
  | err x S => unfold calmM at w5; rw [eg] at w5; exact w5.elim
  | stuck => unfold calmM at w5; rw [eg] at w5; exact w5.elim
  | ok d S' =>
    unfold calmM at w5
    rw [eg] at w5
    exact ⟨γ2, hid, S2, d1, d2, d, S', w1, w2.rp q4, w4, eg, fun γ' H' v b1 b2 b3 => w5 γ' H' v b1 b2 b3⟩
theorem ev_cmpM {o : CmpOp} {op : D → D → M D} (ho : OpR X (compareOp o) (rOM X.K T op)) (hm : behindInMarks o b = false) (ha : EvE X T EE a fa) (hb : EvE X T EE b fb) : EvE X T EE (.Compare a [o] [b] pos) (fun ρ => M.bind (fa ρ) fun x => M.bind (fb ρ) fun y => calmM (op x y)) :=
  ⟨(pe_cmpR ho ha.pe hb.pe hm).dimp fun σ H Q h => twoM h⟩
theorem ev_binM {o : Operator} {op : D → D → M D} (ho : OpR X (binaryOp o) (rOM X.K T op)) (ha : EvE X T EE a fa) (hb : EvE X T EE b fb) : EvE X T EE (.BinOp a o b pos) (fun ρ => M.bind (fa ρ) fun x => M.bind (fb ρ) fun y => calmM (op x y)) :=
  ⟨(pe_op ho ha.pe hb.pe).dimp fun σ H Q h => twoM h⟩
end
section
variable {X : Cx} {T : Tab} {NM : Nat → List Str} {k c : Nat} {g : List D → M D} {fa : Addr} {fd : FuncData} {ps : List Str}
/-- a == b by a's own def -/
def eqOwn (c : Nat) (g : List D → M D) (d1 d2 : D) : M D := fun S => match d1 with
  | .obj c' _ => if c' = c then (match g [d1, d2] S with
    | .ok (.bl b) S' => (match tyName d2, d2 with
      | some _, .ref _ => .stuck
      | some _, _ => .ok (.bl b) S'
      | none, .obj c2 _ => if c2 = c then .ok (.bl b) S' else .stuck
      | none, _ => .stuck)
    | _ => .stuck) else .stuck
  | _ => .stuck
theorem op_eqOwn (hs : PySem.W.findIn X.K (.ref (T.C c)) "__eq__" = some (some (.ref fa))) (hf : PySem.W.isFn X.K (.ref fa) = true) (hn0 : ∀ n ∈ tyNames, PySem.W.notFirst X.K (T.C c) (.type n) = true)
    (F : FnG X.prog X.w X.K X.mg X.base k fa fd ps (spD X.K T 2 g)) (hr : Room k X.A) (nr : NoRepr X.A) (hb : Binds X.K fd ps []) : OpR X (compareOp .Eq) (rOM X.K T (eqOwn c g)) := by
  intro pins s σ H x y v u Q I rx ry h
  obtain ⟨γ, hid, S, d1, d2, d, S', hold, r1, r2, e, q⟩ := h
  unfold eqOwn at e
  split at e
  · rename_i c' l
    split at e
    · rename_i hc
      subst hc
      split at e
      · rename_i b S2 eg
        cases r1 with
        | @obj p dx _ _ _ a z w =>
          obtain rfl : v = Value.ref p := rx
          obtain ⟨mA, ob, _, _, _, _⟩ := ins_get I.hok (out_sub _ _ _ _ _ _ a)
          obtain ⟨od, at1, _⟩ := ob.look
          obtain ⟨m, fr⟩ := I.fr
          have run : wpAny (model X.prog X.w) X.A (call (.ref fa) [.ref p, u]) (EP X pins σ fun w H' => ∃ b', w = .bl b' ∧ Q w H') X.xe s :=
            rung (E := E0) F hr nr hb I (vs := [.ref p, y]) (.cons (show RelV (.ref p) (Value.ref p) from rfl) (.cons ry .nil)) ⟨γ, hid, S, [.obj c' l, d2], hold, .cons (.obj a z w) (.cons r2 .nil), rfl, _, _, eg, fun γ' H' v' b1 b2 b3 => by
              cases b3
              refine ⟨b, rfl, ?_⟩
              split at e
              · cases e
              · cases e
                exact q γ' H' _ b1 b2 (.bl _)
              · split at e
                · cases e
                  exact q γ' H' _ b1 b2 (.bl _)
                · cases e
              · cases e⟩
          have hty : ∃ tb, PySem.W.Looks (model X.prog X.w) s.heap (typeOf u) tb ∧ PySem.W.notFirst X.K (T.C c') tb = true := by
            split at e
            · cases e
            · rename_i hnr en
              obtain ⟨P, Z, hP⟩ := kit_of I ry (tyX_of hold r2 en fun k hk => absurd hk (hnr k))
              exact ⟨_, Z.ty _ _ I.kIn hP.1, hn0 _ (tyName_mem en)⟩
            · split at e
              · rename_i hc2
                subst hc2
                cases r2 with
                | obj a2 z2 w2 =>
                  obtain rfl : u = Value.ref _ := ry
                  obtain ⟨mB, ob2, _, _, _, _⟩ := ins_get I.hok (out_sub _ _ _ _ _ _ a2)
                  obtain ⟨od2, at2, _⟩ := ob2.look
                  exact ⟨_, at2.type, by unfold PySem.W.notFirst; simp⟩
              · cases e
            · cases e
          obtain ⟨tb, lk, nf⟩ := hty
          refine PySem.W.cmp_K (op := .Eq) (tb := tb) hr.units0 fr I.ok.mod.kin at1 lk nf hs hf (wpAny_mono run (fun t s2 z => ?_) fun _ _ z => z)
          obtain ⟨v', H2, I2, rv, b', rfl, q2⟩ := z
          obtain rfl : t = Value.bool b' := rv
          exact ⟨.bl b', H2, I2, rfl, q2⟩
      · cases e
    · cases e
  · cases e
end
end DL
end
section
set_option maxHeartbeats 4000000
/-! DLs: methods, properties, instances made and called, own operators: by a def at an address; the head's facts for them. -/
namespace DL
open PySem PySem.Spec L2
open PyProof.Rows hiding St
/-- the def at an address keeps its promise -/
def FnA (P : Program) (w : World) (K : PySem.W.Frag) (mg : Str → Option Value) (base : Heap) (k : Nat) (ad : Addr) (ps : List Str) (sp : Sp) : Prop := ∃ fd, FnG P w K mg base k ad fd ps sp ∧ Binds K fd ps []
theorem fnA {P : Program} {w : World} {K : PySem.W.Frag} {mg : Str → Option Value} {base : Heap} {k : Nat} {ad : Addr} {ps : List Str} {sp : Sp} {x qual : Str} {params : Arguments} {body : List Stmt} {scope : Scope}
    (c : ∃ fd, FunD K x qual params body scope [] [] ad fd) (b : ∀ fd, FunD K x qual params body scope [] [] ad fd → Binds K fd ps []) (h : ∀ fd, FunD K x qual params body scope [] [] ad fd → FnG P w K mg base k ad fd ps sp) : FnA P w K mg base k ad ps sp :=
  let ⟨fd, F⟩ := c
  ⟨fd, h fd F, b fd F⟩
section
variable {X : Cx} {T : Tab} {EE : XX} {e o : Expr} {es : List Expr} {fe fo : En → M D} {fs : En → M (List D)} {f m : Str} {pos apos : Pos} {NM : Nat → List Str} {j k n c : Nat} {fa : Addr} {ps : List Str}
def isCM (NM : Nat → List Str) (c : Nat) (m : Str) (o : M D) : M D := M.bind o fun d => M.bind (M.opt (isC NM c m d)) fun _ => kon d
/-- from what is wanted of a call to its promise, a new list -/
theorem sp_ofL {g : List D → M (List D)} {K : PySem.W.Frag} {γ hid : List Addr} {S : Cells} {H : Hp} {ρ : En} {σ : St} {Q : VK} {E : XK} {ds : List D} {vs : List V} (w : resG K T EE (repL K T) γ hid S H ρ σ (calmM (arity n g ds) S) (fun us H' => ∀ p, H' p = none → Q (.ref p) (upd H' p (.lst us)))) (h : Hold K T γ hid S H) (r : RpL K T γ (out γ S hid H) ds vs) : spL K T n g vs H Q E := by
  refine spL_arity ?_
  cases eg : arity n g ds S with
  | err x S => unfold calmM at w; rw [eg] at w; exact w.elim
  | stuck => unfold calmM at w; rw [eg] at w; exact w.elim
  | ok d S' =>
    unfold calmM at w
    rw [eg] at w
    have hl : ds.length = n := by
      by_cases hn : ds.length = n
      · exact hn
      · unfold arity at eg
        rw [if_neg hn] at eg
        cases eg
    exact ⟨γ, hid, S, ds, h, r, hl, d, S', eg, fun γ' H' v b1 b2 z b3 => w γ' H' v b1 b2 ⟨z, b3⟩⟩
/-- o.m(e, ..) -/
def mtE (NM : Nat → List Str) (c : Nat) (m : Str) (n : Nat) (g : List D → M D) (o : M D) (a : M (List D)) : M D := M.bind o fun d => M.bind (M.opt (isC NM c m d)) fun _ => M.bind a fun ds => calmM (arity n g (d :: ds))
def mtL (NM : Nat → List Str) (c : Nat) (m : Str) (n : Nat) (g : List D → M (List D)) (o : M D) (a : M (List D)) : M (List D) := M.bind o fun d => M.bind (M.opt (isC NM c m d)) fun _ => M.bind a fun ds => calmM (arity n g (d :: ds))
def mt0E (NM : Nat → List Str) (c : Nat) (m : Str) (n : Nat) (g : List D → M D) (o : M D) : M D := M.bind o fun d => M.bind (M.opt (isC NM c m d)) fun _ => calmM (arity n g [d])
def mt0L (NM : Nat → List Str) (c : Nat) (m : Str) (n : Nat) (g : List D → M (List D)) (o : M D) : M (List D) := M.bind o fun d => M.bind (M.opt (isC NM c m d)) fun _ => calmM (arity n g [d])
theorem ev_mtA {g : List D → M D} {pl : Sem Bool} (F : FnA X.prog X.w X.K X.mg X.base j fa ps (spD X.K T n g)) (hr : Room k X.A) (hj : j ≤ k) (nr : NoRepr X.A) (hT : T.N = NM) (hc : Cls X.K (T.C c)) (hm : Meth X.K (T.C c) m fa) (ho : EvE X T EE o fo) (ha : EvA X T EE (e :: es) fs)
    (hst : starEach (e :: es) X.env = (false, eval e X.env) :: starEach es X.env := by rfl) (hpl : (backTo pos (starEach es X.env)).any (·.1) = false := by rfl)
    (ht : eval (.Call (.Attribute o m apos) (e :: es) [] pos) X.env = (do
      let recv ← eval o X.env
      standAt apos.atName
      let (g, h) ← holding [recv] (getMethod recv m pl)
      callWith pos g h (backTo pos (starEach (e :: es) X.env)) (backToKw pos (keywordEach [] X.env))) := by rfl) :
    EvE X T EE (.Call (.Attribute o m apos) (e :: es) [] pos) (fun ρ => mtE NM c m n g (fo ρ) (fs ρ)) :=
  let ⟨_, F, b⟩ := F
  ev_mt hT ho hc hm (F.mono hj) hr nr b ha hst hpl ht
theorem ev_mt0A {g : List D → M D} {pl : Sem Bool} (F : FnA X.prog X.w X.K X.mg X.base j fa ps (spD X.K T n g)) (hr : Room k X.A) (hj : j ≤ k) (nr : NoRepr X.A) (hT : T.N = NM) (hc : Cls X.K (T.C c)) (hm : Meth X.K (T.C c) m fa) (ho : EvE X T EE o fo)
    (ht : eval (.Call (.Attribute o m apos) [] [] pos) X.env = (do
      let recv ← eval o X.env
      standAt apos.atName
      let (g, h) ← holding [recv] (getMethod recv m pl)
      callWith pos g h (backTo pos (starEach [] X.env)) (backToKw pos (keywordEach [] X.env))) := by rfl) :
    EvE X T EE (.Call (.Attribute o m apos) [] [] pos) (fun ρ => mt0E NM c m n g (fo ρ)) :=
  let ⟨_, F, b⟩ := F
  ev_mt0 hT ho hc hm (F.mono hj) hr nr b ht
theorem ev_propA {g : List D → M D} {pr : Addr} (F : FnA X.prog X.w X.K X.mg X.base j fa ps (spD X.K T n g)) (hr : Room k X.A) (hj : j + 1 ≤ k) (nr : NoRepr X.A) (hT : T.N = NM) (hc : Cls X.K (T.C c)) (hp : PropOf X.K (T.C c) f pr fa) (ho : EvE X T EE o fo)
    (hab : attributeBase o f X.env (eval o X.env) = eval o X.env := by rfl) : EvE X T EE (.Attribute o f pos) (fun ρ => mt0E NM c f n g (fo ρ)) :=
  let ⟨_, F, b⟩ := F
  ev_prop hT ho hc hp F (hr.mono hj) nr b hab
/-- o.f, a property that hands back a new list -/
theorem evL_propA {g : List D → M (List D)} {pr : Addr} (F : FnA X.prog X.w X.K X.mg X.base j fa ps (spL X.K T n g)) (hr : Room k X.A) (hj : j + 1 ≤ k) (nr : NoRepr X.A) (hT : T.N = NM) (hc : Cls X.K (T.C c)) (hp : PropOf X.K (T.C c) f pr fa) (ho : EvE X T EE o fo)
    (hab : attributeBase o f X.env (eval o X.env) = eval o X.env := by rfl) : EvL X T EE (.Attribute o f pos) (fun ρ => mt0L NM c f n g (fo ρ)) := by
  obtain ⟨fd, F, hb⟩ := F
  have hr := hr.mono hj
  refine ⟨⟨fun pins s σ H Q I h => ?_⟩⟩
  have h : dG X.K T EE (repL X.K T) (fun ρ => M.bind (fo ρ) fun d => M.bind (M.opt (isC NM c f d)) fun _ => calmM (arity n g [d])) σ H _ := h
  obtain ⟨_, _, _, _, h1, h2, h3⟩ := bindD (rep := repE X.K T) h
  refine attr_of hab (thn (ho.pe.run pins s σ H _ I ⟨_, _, _, _, h1, h2, h3⟩) fun u s1 ⟨x, H1, I1, rx, d1, γ1, hid, S1, ρ, q1, q3, q4, q5⟩ => ?_)
  cases et : isC NM c f d1 S1 with
  | none =>
    rw [bind_of_stuck (opt_none et)] at q5
    exact q5.elim
  | some w =>
    rw [bind_of_ok (opt_some et)] at q5
    obtain ⟨a, dx, gs, rfl, ea, el⟩ := isC_ok hT q4 et
    obtain rfl : u = Value.ref a := rx
    exact getP (E := E0) I1 ea hc hp F hr nr hb (sp_ofL q5 q1 (.cons q4 .nil))
theorem evL_mt0A {g : List D → M (List D)} {pl : Sem Bool} (F : FnA X.prog X.w X.K X.mg X.base j fa ps (spL X.K T n g)) (hr : Room k X.A) (hj : j ≤ k) (nr : NoRepr X.A) (hT : T.N = NM) (hc : Cls X.K (T.C c)) (hm : Meth X.K (T.C c) m fa) (ho : EvE X T EE o fo)
    (ht : eval (.Call (.Attribute o m apos) [] [] pos) X.env = (do
      let recv ← eval o X.env
      standAt apos.atName
      let (g, h) ← holding [recv] (getMethod recv m pl)
      callWith pos g h (backTo pos (starEach [] X.env)) (backToKw pos (keywordEach [] X.env))) := by rfl) :
    EvL X T EE (.Call (.Attribute o m apos) [] [] pos) (fun ρ => mt0L NM c m n g (fo ρ)) := by
  obtain ⟨fd, F, hb⟩ := F
  refine ⟨(pg_meth0 (E := E0) ho.pe hc hm (F.mono hj) hr nr hb ht).dimp fun σ H Q h => ?_⟩
  refine (show dG X.K T EE (repE X.K T) fo σ H _ from ?_)
  have h : dG X.K T EE (repL X.K T) (fun ρ => M.bind (fo ρ) fun d => M.bind (M.opt (isC NM c m d)) fun _ => calmM (arity n g [d])) σ H _ := h
  obtain ⟨_, _, _, _, h1, h2, h3⟩ := bindD (rep := repE X.K T) h
  refine ⟨_, _, _, _, h1, h2, h3.imp fun x H1 ⟨d1, γ1, hid, S1, ρ, q1, q3, q4, q5⟩ => ?_⟩
  cases et : isC NM c m d1 S1 with
  | none =>
    rw [bind_of_stuck (opt_none et)] at q5
    exact q5.elim
  | some u =>
    rw [bind_of_ok (opt_some et)] at q5
    obtain ⟨a, dx, gs, ex, ea, el⟩ := isC_ok hT q4 et
    exact ⟨a, dx, gs, ex, ea, el, sp_ofL (E := E0) q5 q1 (.cons q4 .nil)⟩
/-- C(..) -/
def makeE (NM : Nat → List Str) (c n : Nat) (g : List D → M D) (a : M (List D)) : M D := M.bind a fun ds => makeD NM c n g ds
theorem ev_makeA {x : Str} {p : Pos} {g : List D → M D} (F : FnA X.prog X.w X.K X.mg X.base j fa ps (spD X.K T n g)) (hr : Room k X.A) (hj : j + 1 ≤ k) (nr : NoRepr X.A) (hT : T.N = NM) (hM : Mk X.K (T.C c) fa) (hm : X.mg x = some (.ref (T.C c))) (hg : Gl X x)
    (ha : EvA X T EE (e :: es) fs) (hdb : (x == ("__debug__" : Str)) = false := by decide) (he : starEach (e :: es) X.env = (false, eval e X.env) :: starEach es X.env := by rfl) (hpl : (backTo pos (starEach es X.env)).any (·.1) = false := by rfl) :
    EvE X T EE (.Call (.Name x p) (e :: es) [] pos) (fun ρ => makeE NM c n g (fs ρ)) :=
  let ⟨_, F, b⟩ := F
  ev_make hM F hT (hr.mono hj) nr hg hm b ha hdb he hpl
/-- an instance of the class c -/
def isO (c : Nat) (d : D) (_ : Cells) : Option Unit := match d with
  | .obj c' _ => if c' = c then some () else none
  | _ => none
/-- o(e, ..), o an instance -/
def icE (c n : Nat) (g : List D → M D) (o : M D) (a : M (List D)) : M D := M.bind o fun d => M.bind (M.opt (isO c d)) fun _ => M.bind a fun ds => calmM (arity n g (d :: ds))
theorem ev_icA {g : List D → M D} (F : FnA X.prog X.w X.K X.mg X.base j fa ps (spD X.K T n g)) (hr : Room k X.A) (hj : j ≤ k) (nr : NoRepr X.A) (cO : StX.CallO X.K (T.C c) fa) (ho : EvE X T EE o fo) (ha : EvA X T EE (e :: es) fs)
    (ht : eval (.Call o (e :: es) [] pos) X.env = (do callWith pos (← eval o X.env) [] (backTo pos (starEach (e :: es) X.env)) (backToKw pos (keywordEach [] X.env))) := by rfl)
    (he : starEach (e :: es) X.env = (false, eval e X.env) :: starEach es X.env := by rfl) (hpl : (backTo pos (starEach es X.env)).any (·.1) = false := by rfl) :
    EvE X T EE (.Call o (e :: es) [] pos) (fun ρ => icE c n g (fo ρ) (fs ρ)) := by
  obtain ⟨fd, F, hb⟩ := F
  have F := F.mono hj
  refine ⟨⟨fun pins s σ H Q I h => ?_⟩⟩
  have h : dG X.K T EE (repE X.K T) (fun ρ => M.bind (fo ρ) fun d => M.bind (M.opt (isO c d)) fun _ => M.bind (fs ρ) fun ds => calmM (arity n g (d :: ds))) σ H Q := h
  obtain ⟨γ, hid, S, ρ, hold, env, h⟩ := h
  obtain ⟨_, _, _, _, h1, h2, h3⟩ := bindR (rep := repE X.K T) hold env h
  refine Call_ (thn (ho.pe.run pins s σ H _ I ⟨_, _, _, _, h1, h2, h3⟩) fun u s1 ⟨x, H1, I1, rx, d1, γ1, S1, q1, q2, q3, q4, q5⟩ => ?_) ht
  cases et : isO c d1 S1 with
  | none =>
    rw [bind_of_stuck (opt_none et)] at q5
    exact q5.elim
  | some w =>
    rw [bind_of_ok (opt_some et)] at q5
    cases d1 with
    | obj c' l =>
      have hc : c' = c := by
        by_cases hc : c' = c
        · exact hc
        · exact absurd et (by show (if c' = c then some () else none) ≠ some w; rw [if_neg hc]; simp)
      subst hc
      have q4' := q4
      cases q4' with
      | @obj a dx _ _ _ ea z b =>
        obtain rfl : u = Value.ref a := rx
        obtain ⟨_, _, _, _, h1, h2, h3⟩ := bindR (rep := repA X.K T) q1 q3 q5
        refine StX.callO_with (thn (ha.pa.run pos pins s1 σ H1 _ I1 ⟨_, _, _, _, h1, h2, h3⟩) fun us s2 ⟨vs, H2, I2, r, ds, γ2, S2, w1, w2, w3, w4, w5⟩ => ?_) he hpl
        have r4 := w2.rp q4
        have r4' := r4
        cases r4' with
        | obj ea2 z2 b2 =>
          have ih := out_sub _ _ _ _ _ _ ea2
          obtain ⟨ox, od, J, hd⟩ := StX.insC_at I2 (.inr ⟨_, _, ih⟩)
          refine ⟨⟨_, ox, od, J, hd⟩, ?_⟩
          have rr : RpL X.K T γ2 (out γ2 S2 hid H2) (.obj c' l :: ds) (.ref a :: vs) := .cons r4 w4
          have sp : spD X.K T n g (.ref a :: vs) H2 Q E0 := sp_of w5 w1 rr
          have hl : (Value.ref a :: us).length = ps.length := by
            have r2 : Vals (V.ref a :: vs) (Value.ref a :: us) := .cons rfl r
            rw [← r2.length]
            exact F.len _ _ _ _ sp
          have bd := hb s2 (.ref a :: us) I2.kIn (by rw [List.append_nil]; exact hl)
          rw [List.append_nil] at bd
          refine wpAny_call (PySem.W.kco_code I2.kIn J hd cO.at_ cO.fn cO.fi (codeAny_mono (F.run X.A X.stack s2 H2 ⟨.ref a :: us, []⟩ (.ref a :: us) (.ref a :: vs) Q E0 hr nr I2.env0 bd (.cons rfl r) sp) fun res t q => ?_))
          cases res with
          | error er => exact False.elim q
          | ok flow =>
            cases flow with
            | ret u => exact I2.after q
            | next => exact False.elim q
            | brk => exact False.elim q
            | cont => exact False.elim q
    | _ => exact absurd et (by intro z; cases z)
end
/-! ### own operators -/
/-- by classes, else the built-in one -/
def opU : List (Nat × (D → D → M D)) → (D → D → Cells → Option D) → D → D → M D
  | [], b, d1, d2 => fun S => match d1 with
    | .obj _ _ => .stuck
    | _ => M.opt (b d1 d2) S
  | (c, g) :: r, b, d1, d2 => fun S => match d1 with
    | .obj c' _ => if c' = c then g d1 d2 S else opU r b d1 d2 S
    | _ => opU r b d1 d2 S
section
variable {X : Cx} {T : Tab} {k c : Nat} {g : D → D → M D} {f : Value → Value → Sem Value} {b : D → D → Cells → Option D} {r : List (Nat × (D → D → M D))}
theorem op_U0 (h : OpR X f (rO X.K T b)) : OpR X f (rOM X.K T (opU [] b)) := h.dimp fun x y H Q ⟨γ, hid, S, d1, d2, d, S', a1, a2, a3, a4, a5⟩ => by
  have e : M.opt (b d1 d2) S = .ok d S' := by
    cases d1 with
    | obj c l => exact absurd a4 (by intro z; cases z)
    | _ => exact a4
  unfold M.opt at e
  cases q : b d1 d2 S with
  | none => rw [q] at e; cases e
  | some z =>
    rw [q] at e
    cases e
    exact ⟨γ, hid, S, d1, d2, d, a1, a2, a3, q, a5⟩
theorem op_U1 (h1 : OpR X f (rOM X.K T g)) (h2 : OpR X f (rOM X.K T (opU r b))) : OpR X f (rOM X.K T (opU ((c, g) :: r) b)) := by
  intro pins s σ H x y v u Q I rx ry ⟨γ, hid, S, d1, d2, d, S', a1, a2, a3, a4, a5⟩
  have other : opU r b d1 d2 S = .ok d S' → _ := fun q => h2 pins s σ H x y v u Q I rx ry ⟨γ, hid, S, d1, d2, d, S', a1, a2, a3, q, a5⟩
  cases d1 with
  | obj c' l =>
    have a4 : (if c' = c then g (.obj c' l) d2 S else opU r b (.obj c' l) d2 S) = .ok d S' := a4
    by_cases hc : c' = c
    · rw [if_pos hc] at a4
      exact h1 pins s σ H x y v u Q I rx ry ⟨γ, hid, S, _, d2, d, S', a1, a2, a3, a4, a5⟩
    · rw [if_neg hc] at a4
      exact other a4
  | _ => exact other a4
def uM (op : D → M D) (a : M D) : M D := M.bind a fun x => calmM (op x)
def b2M (op : D → D → M D) (a b : M D) : M D := M.bind a fun x => M.bind b fun y => calmM (op x y)
end
/-! ### the facts of own operators -/
/-- a class's own operator: its name, the built-in kinds that may stand at its right -/
structure OpD where
  cls : Str
  name : Str
def OpD.ok (K : PySem.W.Frag) (d : OpD) : Bool := PySem.W.selfFirst K (He.ga K d.cls) && (He.eqO (PySem.W.findIn K (.ref (He.ga K d.cls)) d.name) (some (some (.ref (He.ma K (He.ga K d.cls) d.name)))) &&
  (PySem.W.isFn K (.ref (He.ma K (He.ga K d.cls) d.name)) && (PySem.W.fnIn K (He.ma K (He.ga K d.cls) d.name) && ((PySem.W.isClsIn K (He.ga K d.cls)) && (tyNames.all fun n => PySem.W.notFirst K (He.ga K d.cls) (.type n))))))
structure OwnF (K : PySem.W.Frag) (C f : Addr) (m : Str) : Prop where
  first : PySem.W.selfFirst K C = true
  at_ : PySem.W.findIn K (.ref C) m = some (some (.ref f))
  fn : PySem.W.isFn K (.ref f) = true
  fi : PySem.W.fnIn K f = true
  isc : PySem.W.isClsIn K C = true
  nf : ∀ n ∈ tyNames, PySem.W.notFirst K C (.type n) = true
theorem OpD.ok_ok {K : PySem.W.Frag} {d : OpD} (h : d.ok K = true) : OwnF K (He.ga K d.cls) (He.ma K (He.ga K d.cls) d.name) d.name := by
  unfold OpD.ok at h
  simp only [Bool.and_eq_true] at h
  obtain ⟨h1, h2, h3, h4, h5, h6⟩ := h
  exact ⟨h1, He.eqO_ok h2, h3, h4, h5, fun n hn => List.all_eq_true.mp h6 n hn⟩
theorem OwnF.callO {K : PySem.W.Frag} {C f : Addr} (h : OwnF K C f "__call__") : StX.CallO K C f := ⟨h.at_, h.fn, h.fi⟩
section
variable {X : Cx} {T : Tab} {NM : Nat → List Str} {j k c n : Nat} {g : List D → M D} {fa : Addr} {ps : List Str}
theorem op_eqA (F : FnA X.prog X.w X.K X.mg X.base j fa ps (spD X.K T 2 g)) (hr : Room k X.A) (hj : j ≤ k) (nr : NoRepr X.A) (h : OwnF X.K (T.C c) fa "__eq__") : OpR X (compareOp .Eq) (rOM X.K T (eqOwn c g)) :=
  let ⟨_, F, b⟩ := F
  op_eqOwn h.at_ h.fn h.nf (F.mono hj) hr nr b
/-- the built-in type of a right operand -/
theorem type_at {pins : List (Addr × Obj)} {σ : St} {H : Hp} {s : Shared} {γ hid : List Addr} {S : Cells} {d : D} {v : V} {u : Value} {nm : String} (I : Inv X pins σ H s) (hold : Hold X.K T γ hid S H) (r : Rp X.K T γ (out γ S hid H) d v) (rv : RelV v u) (e : tyName d = some nm) (hl : ∀ k, d ≠ .ref k) : PySem.W.Looks (model X.prog X.w) s.heap (typeOf u) (.type nm) := by
  obtain ⟨P, Z, hP⟩ := kit_of I rv (tyX_of hold r e fun k hk => absurd hk (hl k))
  exact Z.ty _ _ I.kIn hP.1
end
/-- what + and * want besides: the names of the operator, no reflected one -/
structure BinF (K : PySem.W.Frag) (C f : Addr) (o : Operator) : Prop where
  own : OwnF K C f (PySem.dunder o.info.2)
  refl : PySem.W.findIn K (.ref C) (PySem.dunderR o.info.2) = some none
  lf : ∀ n ∈ tyNames, ∃ fo, PySem.W.findIn K (.type n) (PySem.dunder o.info.2) = some fo
  rf : ∀ n ∈ tyNames, ∃ fo, PySem.W.findIn K (.type n) (PySem.dunderR o.info.2) = some fo
  sb : ∀ n ∈ tyNames, PySem.W.subIn K (.type n) (.ref C) = some false
structure BnD where
  cls : Str
  op : Operator
def BnD.ok (K : PySem.W.Frag) (d : BnD) : Bool := (OpD.mk d.cls (PySem.dunder d.op.info.2)).ok K && (He.eqO (PySem.W.findIn K (.ref (He.ga K d.cls)) (PySem.dunderR d.op.info.2)) (some none) &&
  (tyNames.all fun n => (PySem.W.findIn K (.type n) (PySem.dunder d.op.info.2)).isSome && ((PySem.W.findIn K (.type n) (PySem.dunderR d.op.info.2)).isSome && decide (PySem.W.subIn K (.type n) (.ref (He.ga K d.cls)) = some false))))
theorem BnD.ok_ok {K : PySem.W.Frag} {d : BnD} (h : d.ok K = true) : BinF K (He.ga K d.cls) (He.ma K (He.ga K d.cls) (PySem.dunder d.op.info.2)) d.op := by
  unfold BnD.ok at h
  simp only [Bool.and_eq_true, List.all_eq_true, decide_eq_true_eq] at h
  obtain ⟨h1, h2, h3⟩ := h
  exact ⟨OpD.ok_ok h1, He.eqO_ok h2, fun n hn => Option.isSome_iff_exists.mp (h3 n hn).1, fun n hn => Option.isSome_iff_exists.mp (h3 n hn).2.1, fun n hn => (h3 n hn).2.2⟩
section
variable {X : Cx} {T : Tab} {NM : Nat → List Str} {j k c n : Nat} {g : List D → M D} {fa : Addr} {ps : List Str}
/-- a + b, a * b by a's own def; b plain, or of the same class; the answer is data -/
def binOwn (c : Nat) (g : List D → M D) (d1 d2 : D) : M D := fun S => match d1 with
  | .obj c' _ => if c' = c then (match tyName d2, d2 with
      | some _, .ref _ => .stuck
      | some _, .lst _ => .stuck
      | some _, .tup _ => .stuck
      | some _, _ => g [d1, d2] S
      | none, .obj c2 _ => if c2 = c then g [d1, d2] S else .stuck
      | none, _ => .stuck) else .stuck
  | _ => .stuck
theorem cmpBack_rep {K : PySem.W.Frag} {v : V} {u : Value} {Q : Value → Shared → Prop} {s : Shared} (r : RelV v u) (q : Q u s) (hv : ∀ b : Nat, True) : PySem.W.CmpBack Q u s := by
  cases v with
  | ref a => obtain rfl : u = Value.ref a := r; exact q
  | non => obtain rfl : u = Value.none := r; exact q
  | bl b => obtain rfl : u = Value.bool b := r; exact q
  | int i => obtain ⟨t, rfl⟩ := r; exact q
  | str x => obtain ⟨t, rfl⟩ := r; exact q
  | byt x => obtain ⟨t, rfl⟩ := r; exact q
  | flt x => obtain ⟨t, rfl⟩ := r; exact q
  | ty x => obtain rfl : u = Value.type x := r; exact q
theorem op_binA {o : Operator} (F : FnA X.prog X.w X.K X.mg X.base j fa ps (spD X.K T 2 g)) (hr : Room k X.A) (hj : j ≤ k) (nr : NoRepr X.A) (h : BinF X.K (T.C c) fa o) : OpR X (binaryOp o) (rOM X.K T (binOwn c g)) := by
  obtain ⟨fd, F, hb⟩ := F
  have F := F.mono hj
  intro pins s σ H x y v u Q I rx ry hh
  obtain ⟨γ, hid, S, d1, d2, d, S', hold, r1, r2, e, q⟩ := hh
  unfold binOwn at e
  cases d1 with
  | obj c' l =>
    by_cases hc : c' = c
    · subst hc
      simp only [if_true] at e
      have r1' := r1
      cases r1' with
      | @obj p dx _ _ _ a z w =>
        obtain rfl : v = Value.ref p := rx
        obtain ⟨mA, ob, _, _, _, _⟩ := ins_get I.hok (out_sub _ _ _ _ _ _ a)
        obtain ⟨od, at1, _⟩ := ob.look
        obtain ⟨m, fr⟩ := I.fr
        have run : g [.obj c' l, d2] S = .ok d S' → wpAny (model X.prog X.w) X.A (call (.ref fa) [.ref p, u]) (PySem.W.CmpBack (EP X pins σ Q)) X.xe s := fun eg =>
          wpAny_mono (rung (E := E0) F hr nr hb I (vs := [.ref p, y]) (.cons (show RelV (.ref p) (Value.ref p) from rfl) (.cons ry .nil)) ⟨γ, hid, S, [.obj c' l, d2], hold, .cons r1 (.cons r2 .nil), rfl, _, _, eg, fun γ' H' v' b1 b2 b3 => q γ' H' v' b1 b2 b3⟩)
            (fun t s2 z => by
              obtain ⟨v', H2, I2, rv, q2⟩ := z
              exact cmpBack_rep (K := X.K) (v := v') (Q := EP X pins σ Q) rv ⟨v', H2, I2, rv, q2⟩ fun _ => trivial) fun _ _ z => z
        cases d2 with
        | obj c2 l2 =>
          have e : (if c2 = c' then g [.obj c' l, .obj c2 l2] S else .stuck) = .ok d S' := e
          by_cases h2 : c2 = c'
          · rw [if_pos h2] at e
            subst h2
            have r2' := r2
            cases r2' with
            | obj a2 z2 w2 =>
              obtain rfl : u = Value.ref _ := ry
              obtain ⟨mB, ob2, _, _, _, _⟩ := ins_get I.hok (out_sub _ _ _ _ _ _ a2)
              obtain ⟨od2, at2, _⟩ := ob2.look
              exact PySem.W.binop_K fr I.ok.mod.kin at1 at2.type h.own.first h.own.at_ h.own.fn (run e)
          · rw [if_neg h2] at e
            cases e
        | ref n2 => cases e
        | non =>
          obtain ⟨fo, ef⟩ := h.lf "NoneType" (by decide)
          obtain ⟨ro, er⟩ := h.rf "NoneType" (by decide)
          cases r2
          obtain rfl : u = Value.none := ry
          exact PySem.W.ksp_binT fr I.ok.mod.kin at1 rfl h.own.first h.own.at_ h.own.fn h.refl (.inl rfl) ef er (h.sb _ (by decide)) (run e)
        | bl b =>
          obtain ⟨fo, ef⟩ := h.lf "bool" (by decide)
          obtain ⟨ro, er⟩ := h.rf "bool" (by decide)
          cases r2
          obtain rfl : u = Value.bool b := ry
          exact PySem.W.ksp_binT fr I.ok.mod.kin at1 rfl h.own.first h.own.at_ h.own.fn h.refl (.inl rfl) ef er (h.sb _ (by decide)) (run e)
        | int i =>
          obtain ⟨fo, ef⟩ := h.lf "int" (by decide)
          obtain ⟨ro, er⟩ := h.rf "int" (by decide)
          cases r2
          obtain ⟨t, rfl⟩ := ry
          exact PySem.W.ksp_binT fr I.ok.mod.kin at1 rfl h.own.first h.own.at_ h.own.fn h.refl (.inl rfl) ef er (h.sb _ (by decide)) (run e)
        | str i =>
          obtain ⟨fo, ef⟩ := h.lf "str" (by decide)
          obtain ⟨ro, er⟩ := h.rf "str" (by decide)
          cases r2
          obtain ⟨t, rfl⟩ := ry
          exact PySem.W.ksp_binT fr I.ok.mod.kin at1 rfl h.own.first h.own.at_ h.own.fn h.refl (.inl rfl) ef er (h.sb _ (by decide)) (run e)
        | lst i => cases e
        | tup i => cases e
    · simp only [if_neg hc] at e
      cases e
  | _ => cases e
/-- ~a by a's own def -/
def invOwn (c : Nat) (g : List D → M D) (d1 : D) : M D := fun S => match d1 with
  | .obj c' _ => if c' = c then g [d1] S else .stuck
  | _ => .stuck
def rUM (K : PySem.W.Frag) (T : Tab) (op : D → M D) : V → Hp → VK → Prop := fun x H Q => ∃ γ hid S d1 d S', Hold K T γ hid S H ∧ Rp K T γ (out γ S hid H) d1 x ∧ op d1 S = .ok d S' ∧ okV K T γ hid S H d S' Q
theorem un_invA (F : FnA X.prog X.w X.K X.mg X.base j fa ps (spD X.K T 1 g)) (hr : Room k X.A) (hj : j ≤ k) (nr : NoRepr X.A) (h : OwnF X.K (T.C c) fa "__invert__") : UnR X (unaryOp .Invert) (rUM X.K T (invOwn c g)) := by
  obtain ⟨fd, F, hb⟩ := F
  have F := F.mono hj
  intro pins s σ H x v Q I rx hh
  obtain ⟨γ, hid, S, d1, d, S', hold, r1, e, q⟩ := hh
  unfold invOwn at e
  cases d1 with
  | obj c' l =>
    by_cases hc : c' = c
    · subst hc
      simp only [if_true] at e
      have r1' := r1
      cases r1' with
      | @obj p dx _ _ _ a z w =>
        obtain rfl : v = Value.ref p := rx
        obtain ⟨mA, ob, _, _, _, _⟩ := ins_get I.hok (out_sub _ _ _ _ _ _ a)
        obtain ⟨od, at1, _⟩ := ob.look
        obtain ⟨m, fr⟩ := I.fr
        exact PySem.W.ksp_inv fr I.ok.mod.kin at1 h.at_ h.fn (rung (E := E0) F hr nr hb I (us := [.ref p]) (vs := [.ref p]) (.cons rfl .nil) ⟨γ, hid, S, [.obj c' l], hold, .cons r1 .nil, rfl, _, _, e, fun γ' H' v' b1 b2 b3 => q γ' H' v' b1 b2 b3⟩)
    · simp only [if_neg hc] at e
      cases e
  | _ => cases e
theorem ev_unM {EE : XX} {o : UnaryOp} {op : D → M D} {a : Expr} {f : En → M D} {pos : Pos} (ho : UnR X (unaryOp o) (rUM X.K T op)) (ha : EvE X T EE a f) : EvE X T EE (.UnaryOp o a pos) (fun ρ => uM op (f ρ)) := by
  refine ⟨(pe_un ho ha.pe).dimp fun σ H Q h => ?_⟩
  refine (show dG X.K T EE (repE X.K T) f σ H _ from ?_)
  obtain ⟨_, _, _, _, h1, h2, h3⟩ := bindD (rep := repE X.K T) h
  refine ⟨_, _, _, _, h1, h2, h3.imp fun x H1 ⟨d1, γ1, hid, S1, ρ, q1, q3, q4, w5⟩ => ?_⟩
  cases eg : op d1 S1 with
  | err x S => unfold calmM at w5; rw [eg] at w5; exact w5.elim
  | stuck => unfold calmM at w5; rw [eg] at w5; exact w5.elim
  | ok d S' =>
    unfold calmM at w5
    rw [eg] at w5
    exact ⟨γ1, hid, S1, d1, d, S', q1, q4, eg, fun γ' H' v b1 b2 b3 => w5 γ' H' v b1 b2 b3⟩
end
/-- further facts -/
inductive XF where
  | isi (c : Str) (cs : List (Str × Bool))
  | ins (c : Str)
def XF.ok (K : PySem.W.Frag) : XF → Bool
  | .isi c cs => (tyNames.all fun n => decide (PySem.W.kitOne K (.type n) (.ref (He.ga K c)) = some false)) && (cs.all fun p => decide (PySem.W.kitOne K (.ref (He.ga K p.1)) (.ref (He.ga K c)) = some p.2))
  | .ins c => He.eqO (PySem.W.findIn K (.ref (He.ga K c)) "__class__") (some (some (.builtin "object.__class__"))) && (He.eqO (PySem.W.specialIn K (.builtin "object.__class__") "__get__") (some (some (.builtin "getset_descriptor.__get__"))) && (decide (PySem.W.takesIn K (.builtin "object.__class__") = some true) && decide (PySem.W.mroIn K (He.ga K c) (.type "object") = some true)))
/-- what an instance's type asks -/
structure InsT (K : PySem.W.Frag) (C : Addr) : Prop where
  cl : Cls K C
  ha : PySem.W.findIn K (.ref C) "__class__" = some (some (.builtin "object.__class__"))
  hn : PySem.W.specialIn K (.builtin "object.__class__") "__get__" = some (some (.builtin "getset_descriptor.__get__"))
  tk : PySem.W.takesIn K (.builtin "object.__class__") = some true
  mr : PySem.W.mroIn K C (.type "object") = some true
theorem ins_ok {K : PySem.W.Frag} {c : Str} (cl : Cls K (He.ga K c)) (h : (XF.ins c).ok K = true) : InsT K (He.ga K c) := by
  unfold XF.ok at h
  simp only [Bool.and_eq_true, decide_eq_true_eq] at h
  exact ⟨cl, He.eqO_ok h.1, He.eqO_ok h.2.1, h.2.2.1, h.2.2.2⟩
theorem isi_ok {K : PySem.W.Frag} {c : Str} {cs : List (Str × Bool)} (h : (XF.isi c cs).ok K = true) : (∀ n ∈ tyNames, PySem.W.kitOne K (.type n) (.ref (He.ga K c)) = some false) ∧ ∀ p ∈ cs, PySem.W.kitOne K (.ref (He.ga K p.1)) (.ref (He.ga K c)) = some p.2 := by
  unfold XF.ok at h
  simp only [Bool.and_eq_true, List.all_eq_true, decide_eq_true_eq] at h
  exact h
/-! the observation with own operators -/
def obsW (fa : List He.Fa) (pr : List PrD) (op : List OpD) (bn : List BnD) (xf : List XF) (fn : List DefQ) (K : PySem.W.Frag) : AlQ := ((fa.all fun f => f.ok K) && ((pr.all fun p => prOk K p) && ((op.all fun p => p.ok K) && ((bn.all fun p => p.ok K) && ((xf.all fun p => p.ok K) && fn.all fun d => d.ok K)))), fn.map fun d => fnQ K d)
def SaysW (fa : List He.Fa) (pr : List PrD) (op : List OpD) (bn : List BnD) (xf : List XF) (fn : List DefQ) (K : PySem.W.Frag) : Prop := obsW fa pr op bn xf fn K = valQ fn
def obsWG (n : Nat) (fa : List He.Fa) (pr : List PrD) (op : List OpD) (bn : List BnD) (xf : List XF) (fn : List DefQ) (g : Addr → Option Obj) : AlQ := obsW fa pr op bn xf fn (He.frG g (He.asD g n))
def hookW (n : Nat) (fa : List He.Fa) (pr : List PrD) (op : List OpD) (bn : List BnD) (xf : List XF) (fn : List DefQ) : PySem.W.Hook where
  α := AlQ
  obs := fun s => obsWG n fa pr op bn xf fn s.heap.get?
  val := fun _ => valQ fn
  says := fun _ h => ∃ K : PySem.W.Frag, K.In h ∧ SaysW fa pr op bn xf fn K
  of := fun _ _ e => ⟨_, He.frG_in, e⟩
  keeps := fun _ _ _ ⟨K, hK, c⟩ k => ⟨K, PySem.W.Frag.In.keeps hK k, c⟩
theorem obsWG_eq {n : Nat} {fa : List He.Fa} {pr : List PrD} {op : List OpD} {bn : List BnD} {xf : List XF} {fn : List DefQ} {g : Addr → Option Obj} {s : Shared} (h : ∀ a, g a = s.heap.get? a) : obsWG n fa pr op bn xf fn g = (hookW n fa pr op bn xf fn).obs s := by
  have e : g = s.heap.get? := funext h
  rw [e]
  rfl
section
variable {fa : List He.Fa} {pr : List PrD} {op : List OpD} {bn : List BnD} {xf : List XF} {fn : List DefQ} {K : PySem.W.Frag}
theorem SaysW.all (c : SaysW fa pr op bn xf fn K) : (fa.all fun f => f.ok K) = true ∧ (pr.all fun p => prOk K p) = true ∧ (op.all fun p => p.ok K) = true ∧ (bn.all fun p => p.ok K) = true ∧ (xf.all fun p => p.ok K) = true ∧ (fn.all fun d => d.ok K) = true := by
  have h : ((fa.all fun f => f.ok K) && ((pr.all fun p => prOk K p) && ((op.all fun p => p.ok K) && ((bn.all fun p => p.ok K) && ((xf.all fun p => p.ok K) && fn.all fun d => d.ok K))))) = true := congrArg (fun z : AlQ => z.1) c
  simpa only [Bool.and_eq_true] using h
theorem SaysW.fact (c : SaysW fa pr op bn xf fn K) (i : Nat) {f : He.Fa} (h : fa[i]? = some f := by rfl) : f.ok K = true := List.all_eq_true.mp c.all.1 f (List.mem_of_getElem? h)
theorem SaysW.prop (c : SaysW fa pr op bn xf fn K) (i : Nat) {p : PrD} (h : pr[i]? = some p := by rfl) : PropOf K (He.ga K p.cls) p.name (prA K p) (prG K p) := prOk_ok (List.all_eq_true.mp c.all.2.1 p (List.mem_of_getElem? h))
theorem SaysW.own (c : SaysW fa pr op bn xf fn K) (i : Nat) {p : OpD} (h : op[i]? = some p := by rfl) : OwnF K (He.ga K p.cls) (He.ma K (He.ga K p.cls) p.name) p.name := OpD.ok_ok (List.all_eq_true.mp c.all.2.2.1 p (List.mem_of_getElem? h))
theorem SaysW.bin (c : SaysW fa pr op bn xf fn K) (i : Nat) {p : BnD} (h : bn[i]? = some p := by rfl) : BinF K (He.ga K p.cls) (He.ma K (He.ga K p.cls) (PySem.dunder p.op.info.2)) p.op := BnD.ok_ok (List.all_eq_true.mp c.all.2.2.2.1 p (List.mem_of_getElem? h))
theorem SaysW.more (c : SaysW fa pr op bn xf fn K) (i : Nat) {p : XF} (h : xf[i]? = some p := by rfl) : p.ok K = true := List.all_eq_true.mp c.all.2.2.2.2.1 p (List.mem_of_getElem? h)
theorem SaysW.def_ (c : SaysW fa pr op bn xf fn K) (i : Nat) {d : DefQ} (h : fn[i]? = some d := by rfl) : ∃ fd, FunD K d.name d.qual d.params d.body d.scope [] [] (d.ad K) fd := by
  have e : fn.map (fun d => fnQ K d) = fn.map DefQ.val := congrArg (fun z : AlQ => z.2) c
  have e2 : (fn.map fun d => fnQ K d)[i]? = (fn.map DefQ.val)[i]? := by rw [e]
  rw [List.getElem?_map, List.getElem?_map, h] at e2
  exact DefQ.funD (Option.some.inj e2) (List.all_eq_true.mp c.all.2.2.2.2.2 d (List.mem_of_getElem? h))
end
end DL
end
section
set_option maxHeartbeats 4000000
/-! DLt: a new list times an int; list.count; isinstance of own classes. -/
namespace DL
open PySem PySem.Spec L2
open PyProof.Rows hiding St
/-- an equation that rewriting is to take as a step of its own -/
theorem nrfl {α : Sort u} {a b : α} (h : a = b) : a = b := h
def fldM (NM : Nat → List Str) (cs : List Nat) (f : Str) (e : M D) : M D := M.bind e fun d => M.opt (fldD NM cs f d)
section
variable {X : Cx} {T : Tab} {EE : XX} {a b e o : Expr} {fl : En → M (List D)} {fb fe fo : En → M D} {pos : Pos}
def repD (l : List D) (y : D) : Option (List D) := match y with
  | .int k => if (-(2 ^ 63) ≤ k ∧ k < 2 ^ 63) ∧ l.length * k.toNat ≤ sizeLine then some (List.replicate k.toNat l).flatten else none
  | _ => none
def repL_ (a : M (List D)) (b : M D) : M (List D) := M.bind a fun l => M.bind b fun y => M.opt fun _ => repD l y
theorem len_flat {α : Type} (n : Nat) (l : List α) : (List.replicate n l).flatten.length = n * l.length := PyProof.Rows.lm_len_rep_flat ..
/-- [..] * n, the left one a new list -/
theorem evL_rep (ha : EvL X T EE a fl) (hb : EvE X T EE b fb) : EvL X T EE (.BinOp a .Mult b pos) (fun ρ => repL_ (fl ρ) (fb ρ)) := by
  refine ⟨(pe_op op_rep ha.pe hb.pe).dimp fun σ H Q h => ?_⟩
  refine (show dG X.K T EE (repL X.K T) fl σ H _ from ?_)
  obtain ⟨γ, hid, S, ρ, hold, env, h⟩ := h
  obtain ⟨_, _, _, _, h1, h2, h3⟩ := bindR (rep := repL X.K T) hold env h
  refine ⟨_, _, _, _, h1, h2, h3.imp fun vs H1 ⟨l, γ1, S1, q1, q2, q3, q4, q5⟩ p np => ?_⟩
  obtain ⟨a1, a2, a3⟩ := q1.lay np (.lst vs)
  refine (show dG X.K T EE (repE X.K T) fb σ (upd H1 p (.lst vs)) _ from ?_)
  obtain ⟨_, _, _, _, h1, h2, h3⟩ := bindR (rep := repE X.K T) a1 (q3.mono a2.pre (a2.sameH hid)) (q5.base a2)
  refine ⟨_, _, _, _, h1, h2, h3.imp fun y H2 ⟨d2, γ2, S2, w1, w2, w3, w4, w5⟩ => ?_⟩
  obtain ⟨z, ez, w5⟩ := opt_ok w5
  have hp : H2 p = some (.lst vs) := out_sub _ _ _ _ _ _ (w2.same _ _ (a3 [] (by simp)))
  unfold repD at ez
  split at ez
  · rename_i k
    split at ez
    · rename_i hz
      cases ez
      cases w4
      have hl := q4.2.length
      refine ⟨p, k, vs, rfl, rfl, hp, hz.1.1, hz.1.2, by rw [← hl]; exact hz.2, ?_⟩
      refine w5 γ2 H2 _ w1 (Ext.refl _ _ _) ⟨?_, ?_⟩
      · rw [len_flat, Nat.mul_comm]
        exact hz.2
      · exact (w2.rpl (a2.rpl q4.2)).flatten k.toNat
    · cases ez
  · cases ez
/-- l.count(x), whole numbers -/
def mCount (d : D) (ds : List D) (S : Cells) : Option (D × Cells) := match ds with
  | [.int k] => ((seqL S d).bind ints?).map fun ns => (.int (ns.count k : Nat), S)
  | _ => none
theorem mt_mCount : MtR X "list.count" (rMt X.K T mCount) := by
  intro pins s σ H x vs v us Q I rx rv h
  refine mt_lcount pins s σ H x vs v us Q I rx rv ?_
  obtain ⟨γ, hid, S, d, ds, d', S', hold, r1, r2, e, q⟩ := h
  unfold mCount at e
  split at e
  · rename_i k
    cases e1 : (seqL S d).bind ints? with
    | none => rw [e1] at e; cases e
    | some ns =>
      rw [e1] at e
      cases e
      cases e2 : seqL S d with
      | none => rw [e2] at e1; cases e1
      | some l =>
        rw [e2] at e1
        obtain ⟨a, ws, rfl, s1, _, s2⟩ := seqL_ok hold r1 e2
        obtain ⟨rfl, _⟩ := ints?_rep s2 e1
        cases r2 with
        | cons r3 r4 =>
          cases r3
          cases r4
          exact ⟨a, ns, k, rfl, rfl, s1, q γ H _ hold (Ext.refl _ _ _) (.int _)⟩
  · cases e
/-- isinstance(d, C), C an own class; tab tells of instances of which classes it holds -/
def isiCD (tab : List (Nat × Bool)) (d : D) (S : Cells) : Option D := match d with
  | .obj c _ => (tab.lookup c).map .bl
  | .ref n => if (seqL S (.ref n)).isSome = true then some (.bl false) else none
  | _ => some (.bl false)
def isiCE (tab : List (Nat × Bool)) (a : M D) : M D := M.bind a fun d => M.opt (isiCD tab d)
theorem look_mem {α β : Type} [BEq α] [LawfulBEq α] {k : α} {v : β} : ∀ {l : List (α × β)}, l.lookup k = some v → (k, v) ∈ l
  | (a, b) :: r, h => by
    rw [List.lookup_cons] at h
    cases q : (k == a) with
    | true =>
      rw [q] at h
      cases h
      rw [beq_iff_eq.mp q]
      exact List.mem_cons_self
    | false =>
      rw [q] at h
      exact List.mem_cons_of_mem _ (look_mem h)
theorem ev_isiC {p : Pos} {x2 : Str} {p2 : Pos} {C : Addr} (tab : List (Nat × Bool)) (hk1 : ∀ n ∈ tyNames, PySem.W.kitOne X.K (.type n) (.ref C) = some false) (hk2 : ∀ q ∈ tab, PySem.W.kitOne X.K (.ref (T.C q.1)) (.ref C) = some q.2) (hI : ∀ q ∈ tab, InsT X.K (T.C q.1)) (hg : Gl X "isinstance") (hm : X.mg "isinstance" = none) (hv : bootBuiltins "isinstance" = some (.builtin "isinstance")) (he : EvE X T EE e fe) (hg2 : Gl X x2) (hm2 : X.mg x2 = some (.ref C))
    (hd2 : (x2 == ("__debug__" : Str)) = false := by decide)
    (hs : starEach [e, .Name x2 p2] X.env = (false, eval e X.env) :: starEach [.Name x2 p2] X.env := by rfl) (hpl : (backTo pos (starEach [.Name x2 p2] X.env)).any (·.1) = false := by rfl) (hs3 : starEach [.Name x2 p2] X.env = (false, eval (.Name x2 p2) X.env) :: starEach [] X.env := by rfl) :
    EvE X T EE (.Call (.Name "isinstance" p) [e, .Name x2 p2] [] pos) (fun ρ => isiCE tab (fe ρ)) := by
  have ha : PA X [e, .Name x2 p2] (tCons (dE X.K T EE fe) (tCons (tC (.ref C)) tNil)) := pa_cons he.pe (pa_cons (pe_glob hg2 hm2 rfl hd2) pa_nil hs3) hs
  refine ⟨(pe_callB call_isi hg hm hv ha (by decide) (by decide) hs hpl).dimp fun σ H Q h => ?_⟩
  refine (show dG X.K T EE (repE X.K T) fe σ H _ from ?_)
  obtain ⟨_, _, _, _, h1, h2, h3⟩ := bindD (rep := repE X.K T) h
  refine ⟨_, _, _, _, h1, h2, h3.imp fun v H1 ⟨d, γ1, hid, S1, ρ, q1, q3, q4, q5⟩ => ?_⟩
  obtain ⟨r, er, w5⟩ := opt_ok q5
  have plain : ∀ n, tyName d = some n → (∀ k, d = .ref k → (seqL S1 d).isSome = true) → r = .bl false → rIsi X.K [v, .ref C] H1 Q := fun n en hl er => by
    subst er
    exact ⟨v, .ref C, .type n, .ref C, false, rfl, .own C, tyX_of q1 q4 en hl, hk1 n (tyName_mem en), w5 γ1 H1 _ q1 (Ext.refl _ _ _) (.bl _)⟩
  cases d with
  | obj c l =>
    have er : (tab.lookup c).map D.bl = some r := er
    cases ek : tab.lookup c with
    | none => rw [ek] at er; cases er
    | some k =>
      rw [ek] at er
      cases er
      cases q4 with
      | @obj a' dx _ _ _ ea z b =>
        exact ⟨_, .ref C, .ref (T.C c), .ref C, k, rfl, .own C, .base (.ins (out_sub _ _ _ _ _ _ ea) (hI _ (look_mem ek)).cl (hI _ (look_mem ek)).ha (hI _ (look_mem ek)).hn (hI _ (look_mem ek)).tk (hI _ (look_mem ek)).mr), hk2 _ (look_mem ek), w5 γ1 H1 _ q1 (Ext.refl _ _ _) (.bl _)⟩
  | ref n =>
    have er : (if (seqL S1 (.ref n)).isSome = true then some (D.bl false) else none) = some r := er
    split at er
    · rename_i hz
      cases er
      exact plain _ rfl (fun k ek => by cases ek; exact hz) rfl
    · cases er
  | _ => exact plain _ rfl (fun k ek => by cases ek) (by cases er; rfl)
def par3S (i j k : Nat) (f : En → M (List D)) : SM := bindS f fun l ρ S => match l with
  | [d, e, g] => .nx (((ρ.set i (some d)).set j (some e)).set k (some g)) S
  | _ => .stuck
/-- a, b, c = x, y, z (plain local names) -/
theorem es_par3 {i j l : Nat} {x y z : Str} {a b c : Expr} {fs : En → M (List D)} {px py pz pt : Pos} {kt k2 : Nat} {pt2 : Pos} (hc : X.calm = true) (hN : X.N.Nodup) (hi : X.N[i]? = some x) (hj : X.N[j]? = some y) (hl : X.N[l]? = some z) (hij : i ≠ j) (hil : i ≠ l) (hjl : j ≠ l)
    (hx : X.env.scope.names.lookup x = some .local) (hy : X.env.scope.names.lookup y = some .local) (hz : X.env.scope.names.lookup z = some .local) (ha : EvA X T EE [a, b, c] fs)
    (hw : swappedStores [.Tuple [.Name x px, .Name y py, .Name z pz] kt pt] (.Tuple [a, b, c] k2 pt2) X.env = pure (some [x, y, z]))
    (hs : swapsWithSole [.Tuple [.Name x px, .Name y py, .Name z pz] kt pt] (.Tuple [a, b, c] k2 pt2) pos.line X.env = pure false := by rfl) :
    EvS X T EE (.Assign [.Tuple [.Name x px, .Name y py, .Name z pz] kt pt] (.Tuple [a, b, c] k2 pt2) pos) (par3S i j l fs) := by
  refine ⟨(ps_par3 hc hN hi hj hl hij hil hjl hx hy hz ha.pa hw hs).dimp fun Dn σ H h => ?_⟩
  refine (show dG X.K T EE (repA X.K T) fs σ H _ from ?_)
  obtain ⟨_, _, _, _, h1, h2, h3⟩ := bindSD (rep := repA X.K T) h
  refine ⟨_, _, _, _, h1, h2, h3.imp fun vs H1 ⟨l, γ1, hid, S1, ρ, q1, q3, q4, q5⟩ => ?_⟩
  cases q4 with
  | nil => exact q5.elim
  | cons r1 r =>
    cases r with
    | nil => exact q5.elim
    | cons r2 r =>
      cases r with
      | nil => exact q5.elim
      | cons r3 r =>
        cases r with
        | nil => exact ⟨_, _, _, rfl, q5 γ1 H1 _ q1 (Ext.refl _ _ _) (((q3.set _ r1).set _ r2).set _ r3)⟩
        | cons r4 r => exact q5.elim
end
end DL
end
section
set_option maxHeartbeats 4000000
/-! DLu: a test by a class's own ==. -/
namespace DL
open PySem PySem.Spec L2
open PyProof.Rows hiding St
def b2MT (op : D → D → M D) (a b : M D) : M Bool := M.bind a fun x => M.bind b fun y => M.bind (calmM (op x y)) fun d => M.opt fun _ => asB d
section
variable {X : Cx} {T : Tab} {EE : XX} {a b : Expr} {fa fb : En → M D} {pos : Pos}
theorem ev_cmpTM {o : CmpOp} {op : D → D → M D} (ho : OpR X (compareOp o) (rOM X.K T op)) (hm : behindInMarks o b = false) (ha : EvE X T EE a fa) (hb : EvE X T EE b fb) :
    EvT X T EE (.Compare a [o] [b] pos) (fun ρ => b2MT op (fa ρ) (fb ρ)) := by
  refine ⟨(pt_cmpR ho ha.pe hb.pe hm).dimp fun σ H Q h => ?_⟩
  refine (show dG X.K T EE (repE X.K T) fa σ H _ from ?_)
  obtain ⟨γ, hid, S, ρ, hold, env, h⟩ := h
  obtain ⟨_, _, _, _, h1, h2, h3⟩ := bindR (rep := repE X.K T) hold env h
  refine ⟨_, _, _, _, h1, h2, h3.imp fun x H1 ⟨d1, γ1, S1, q1, q2, q3, q4, q5⟩ => ?_⟩
  obtain ⟨_, _, _, _, h1, h2, h3⟩ := bindR (rep := repE X.K T) q1 q3 q5
  refine ⟨_, _, _, _, h1, h2, h3.imp fun y H2 ⟨d2, γ2, S2, w1, w2, w3, w4, w5⟩ => ?_⟩
  cases eg : op d1 d2 S2 with
  | err x S => unfold M.bind calmM at w5; rw [eg] at w5; exact w5.elim
  | stuck => unfold M.bind calmM at w5; rw [eg] at w5; exact w5.elim
  | ok d S' =>
    unfold M.bind calmM at w5
    rw [eg] at w5
    have w5 : resG X.K T EE repB γ2 hid S2 H2 ρ σ (M.opt (fun _ => asB d) S') Q := w5
    unfold M.opt at w5
    cases d with
    | bl k =>
      refine ⟨γ2, hid, S2, d1, d2, .bl k, S', w1, w2.rp q4, w4, eg, fun γ' H' v c1 c2 c3 => ?_⟩
      cases c3 with
      | bl b => exact ⟨_, rfl, w5 γ' H' _ c1 c2 rfl⟩
    | _ => exact w5.elim
end
end DL
end
section
set_option maxHeartbeats 4000000
/-! DW: readings by what is wanted behind them (rules for rewriting from above). -/
namespace DL
open PySem PySem.Spec L2
open PyProof.Rows hiding St
section
variable {α β γ : Type}
def U.wp (r : DL.R α) (Q : α → Cells → Prop) (E : Xc → Cells → Prop) : Prop := match r with
  | .ok a S => Q a S
  | .err x S => E x S
  | .stuck => False
def U.wpo (o : Option α) (S : Cells) (Q : α → Cells → Prop) : Prop := match o with
  | some a => Q a S
  | none => False
def U.wpc (o : Option (α × Cells)) (Q : α → Cells → Prop) : Prop := match o with
  | some (a, S) => Q a S
  | none => False
def U.wif (b : Bool) (A B : Prop) : Prop := (b = true → A) ∧ (b = false → B)
def U.wo (o : Out) (N : En → Cells → Prop) (Rt : D → Cells → Prop) (E : Xc → En → Cells → Prop) : Prop := match o with
  | .nx ρ S => N ρ S
  | .rt d S => Rt d S
  | .er x ρ S => E x ρ S
  | _ => False
abbrev noE : Xc → Cells → Prop := fun _ _ => False
theorem U.wp_ok {r : DL.R α} {a : α} {S : Cells} (h : U.wp r (fun b T => b = a ∧ T = S) noE) : r = .ok a S := by
  cases r with
  | ok b T => obtain ⟨rfl, rfl⟩ := h; rfl
  | err x T => exact h.elim
  | stuck => exact h.elim
theorem U.wp_of {r : DL.R α} {a : α} {S : Cells} {Q : α → Cells → Prop} {E : Xc → Cells → Prop} (e : r = .ok a S) (h : Q a S) : U.wp r Q E := by rw [e]; exact h
theorem U.wp_mono {r : DL.R α} {Q Q' : α → Cells → Prop} {E E' : Xc → Cells → Prop} (h : U.wp r Q E) (hq : ∀ a S, Q a S → Q' a S) (he : ∀ x S, E x S → E' x S) : U.wp r Q' E' := by
  cases r with
  | ok b T => exact hq _ _ h
  | err x T => exact he _ _ h
  | stuck => exact h.elim
theorem U.wp_ex {r : DL.R α} {Q : α → Cells → Prop} (h : U.wp r Q noE) : ∃ a S, r = .ok a S ∧ Q a S := by
  cases r with
  | ok b T => exact ⟨b, T, rfl, h⟩
  | err x T => exact h.elim
  | stuck => exact h.elim
theorem U.wo_mono {o : Out} {N N' : En → Cells → Prop} {R R' : D → Cells → Prop} {E E' : Xc → En → Cells → Prop} (h : U.wo o N R E) (hn : ∀ ρ S, N ρ S → N' ρ S) (hr : ∀ d S, R d S → R' d S) (he : ∀ x ρ S, E x ρ S → E' x ρ S) : U.wo o N' R' E' := by
  cases o with
  | nx ρ S => exact hn _ _ h
  | rt d S => exact hr _ _ h
  | er x ρ S => exact he _ _ _ h
  | bk _ _ => exact h.elim
  | ct _ _ => exact h.elim
  | stuck => exact h.elim
section
variable {a b c : M D} {S : Cells} {ρ : En} {Q : D → Cells → Prop} {QL : List D → Cells → Prop} {QB : Bool → Cells → Prop} {E : Xc → Cells → Prop}
theorem U.w_ok {a : α} {Q : α → Cells → Prop} : U.wp (.ok a S) Q E = Q a S := nrfl rfl
theorem U.w_some {a : α} {Q : α → Cells → Prop} : U.wpo (some a) S Q = Q a S := nrfl rfl
theorem U.w_somec {a : α} {Q : α → Cells → Prop} : U.wpc (some (a, S)) Q = Q a S := nrfl rfl
theorem U.w_bind {f : M α} {g : α → M β} {Q : β → Cells → Prop} : U.wp (M.bind f g S) Q E = U.wp (f S) (fun a S => U.wp (g a S) Q E) E := by
  unfold M.bind
  cases f S <;> rfl
theorem U.w_opt {f : Cells → Option α} {Q : α → Cells → Prop} : U.wp (M.opt f S) Q E = U.wpo (f S) S Q := by
  unfold M.opt
  cases f S <;> rfl
theorem U.w_chg {f : Cells → Option (α × Cells)} {Q : α → Cells → Prop} : U.wp (M.chg f S) Q E = U.wpc (f S) Q := by
  unfold M.chg
  cases f S <;> rfl
theorem U.w_kon {d : D} : U.wp (kon d S) Q E = Q d S := nrfl rfl
theorem U.w_calm {f : M α} {Q : α → Cells → Prop} : U.wp (calmM f S) Q E = U.wp (f S) Q noE := by
  unfold calmM
  cases f S <;> rfl
theorem U.w_b2 {op : D → D → Cells → Option D} : U.wp (b2 op a b S) Q E = U.wp (a S) (fun x S => U.wp (b S) (fun y S => U.wpo (op x y S) S Q) E) E := by
  unfold b2
  simp only [U.w_bind, U.w_opt]
theorem U.w_b2L {op : D → D → Cells → Option (List D)} : U.wp (b2L op a b S) QL E = U.wp (a S) (fun x S => U.wp (b S) (fun y S => U.wpo (op x y S) S QL) E) E := by
  unfold b2L
  simp only [U.w_bind, U.w_opt]
theorem U.w_b1 {op : D → Cells → Option D} : U.wp (b1 op a S) Q E = U.wp (a S) (fun x S => U.wpo (op x S) S Q) E := by
  unfold b1
  simp only [U.w_bind, U.w_opt]
/-- a truth value is wanted -/
def wB (Q : Bool → Cells → Prop) (d : D) (S : Cells) : Prop := match d with
  | .bl b => Q b S
  | _ => False
theorem wB_bl {k : Bool} : wB QB (.bl k) S = QB k S := nrfl rfl
theorem U.w_asB {d : D} : U.wpo (asB d) S QB = wB QB d S := by cases d <;> rfl
theorem U.w_b2T {op : D → D → Cells → Option D} : U.wp (b2T op a b S) QB E = U.wp (a S) (fun x S => U.wp (b S) (fun y S => U.wpo (op x y S) S (wB QB)) E) E := by
  unfold b2T
  simp only [U.w_bind, U.w_opt]
  congr 1
  funext x S
  congr 1
  funext y S
  cases op x y S with
  | none => rfl
  | some d => exact U.w_asB
theorem U.w_if {k : Bool} {x y : M α} {Q : α → Cells → Prop} : U.wp ((if k = true then x else y) S) Q E = U.wif k (U.wp (x S) Q E) (U.wp (y S) Q E) := by
  cases k <;> simp [U.wif]
theorem U.w_chE {op op' : D → D → Cells → Option D} : U.wp (chE op op' a b c S) Q E = U.wp (a S) (fun x S => U.wp (b S) (fun y S => U.wpo (op x y S) S (wB fun k S => U.wif k (U.wp (c S) (fun z S => U.wpo (op' y z S) S Q) E) (Q (.bl false) S))) E) E := by
  unfold chE
  simp only [U.w_bind, U.w_opt]
  congr 1
  funext x S
  congr 1
  funext y S
  cases op x y S with
  | none => rfl
  | some d =>
    cases d with
    | bl k =>
      show U.wp ((if k = true then M.bind c fun z => M.opt (op' y z) else kon (D.bl false)) S) Q E = U.wif k _ _
      rw [U.w_if]
      simp only [U.w_bind, U.w_opt]
      rfl
    | _ => rfl
theorem U.w_chT {op op' : D → D → Cells → Option D} : U.wp (chT op op' a b c S) QB E = U.wp (chE op op' a b c S) (wB QB) E := by
  unfold chT
  simp only [U.w_bind, U.w_opt, U.w_asB]
theorem U.w_not {x : M Bool} : U.wp (notT x S) QB E = U.wp (x S) (fun c S => QB (!c) S) E := by
  unfold notT
  rw [U.w_bind]
  rfl
theorem U.w_val : U.wp (valT a S) QB E = U.wp (a S) (fun d S => U.wpo (truD d S) S QB) E := by
  unfold valT
  simp only [U.w_bind, U.w_opt]
theorem U.w_notE : U.wp (notE a S) Q E = U.wp (a S) (wB fun c S => Q (.bl (!c)) S) E := by
  unfold notE
  simp only [U.w_bind, U.w_opt, U.w_asB]
  rfl
theorem U.w_ifE {k : M Bool} : U.wp (ifE k a b S) Q E = U.wp (k S) (fun k S => U.wif k (U.wp (a S) Q E) (U.wp (b S) Q E)) E := by
  unfold ifE
  simp only [U.w_bind, U.w_if]
theorem U.w_ifL {k : M Bool} {x y : M (List D)} : U.wp (ifL k x y S) QL E = U.wp (k S) (fun k S => U.wif k (U.wp (x S) QL E) (U.wp (y S) QL E)) E := by
  unfold ifL
  simp only [U.w_bind, U.w_if]
theorem U.w_andM {x y : M Bool} : U.wp (andM x y S) QB E = U.wp (x S) (fun k S => U.wif k (U.wp (y S) QB E) (QB false S)) E := by
  unfold andM
  simp only [U.w_bind, U.w_if]
  rfl
theorem U.w_orM {x y : M Bool} : U.wp (orM x y S) QB E = U.wp (x S) (fun k S => U.wif k (QB true S) (U.wp (y S) QB E)) E := by
  unfold orM
  simp only [U.w_bind, U.w_if]
  rfl
theorem U.w_andE : U.wp (andE a b S) Q E = U.wp (a S) (wB fun k S => U.wif k (U.wp (b S) Q E) (Q (.bl false) S)) E := by
  unfold andE
  simp only [U.w_bind, U.w_opt, U.w_asB, U.w_if]
  rfl
theorem U.w_orE : U.wp (orE a b S) Q E = U.wp (a S) (wB fun k S => U.wif k (Q (.bl true) S) (U.wp (b S) Q E)) E := by
  unfold orE
  simp only [U.w_bind, U.w_opt, U.w_asB, U.w_if]
  rfl
theorem U.w_nil : U.wp (nilA S) QL E = QL [] S := nrfl rfl
theorem U.w_cons {x : M D} {y : M (List D)} : U.wp (consM x y S) QL E = U.wp (x S) (fun d S => U.wp (y S) (fun l S => QL (d :: l) S) E) E := by
  unfold consM
  simp only [U.w_bind]
  rfl
/-- few items -/
def few (l : List D) : Prop := l.length ≤ sizeLine
theorem U.w_tup {x : M (List D)} : U.wp (tupE x S) Q E = U.wp (x S) (fun l S => few l ∧ Q (.tup l) S) E := by
  unfold tupE
  simp only [U.w_bind, U.w_opt]
  congr 1
  funext l S
  by_cases h : l.length ≤ sizeLine
  · rw [if_pos h]; exact propext ⟨fun q => ⟨h, q⟩, fun q => q.2⟩
  · rw [if_neg h]; exact propext ⟨fun q => q.elim, fun q => absurd q.1 h⟩
theorem U.w_lst {x : M (List D)} : U.wp (lstE x S) QL E = U.wp (x S) (fun l S => few l ∧ QL l S) E := by
  unfold lstE
  simp only [U.w_bind, U.w_opt]
  congr 1
  funext l S
  by_cases h : l.length ≤ sizeLine
  · rw [if_pos h]; exact propext ⟨fun q => ⟨h, q⟩, fun q => q.2⟩
  · rw [if_neg h]; exact propext ⟨fun q => q.elim, fun q => absurd q.1 h⟩
theorem few0 : few [] := Nat.zero_le _
theorem few1 {x1 : D} : few [x1] := show 1 ≤ sizeLine by decide
theorem few2 {x1 x2 : D} : few [x1, x2] := show 2 ≤ sizeLine by decide
theorem few3 {x1 x2 x3 : D} : few [x1, x2, x3] := show 3 ≤ sizeLine by decide
theorem few4 {x1 x2 x3 x4 : D} : few [x1, x2, x3, x4] := show 4 ≤ sizeLine by decide
theorem few5 {x1 x2 x3 x4 x5 : D} : few [x1, x2, x3, x4, x5] := show 5 ≤ sizeLine by decide
theorem few6 {x1 x2 x3 x4 x5 x6 : D} : few [x1, x2, x3, x4, x5, x6] := show 6 ≤ sizeLine by decide
theorem few7 {x1 x2 x3 x4 x5 x6 x7 : D} : few [x1, x2, x3, x4, x5, x6, x7] := show 7 ≤ sizeLine by decide
theorem few8 {x1 x2 x3 x4 x5 x6 x7 x8 : D} : few [x1, x2, x3, x4, x5, x6, x7, x8] := show 8 ≤ sizeLine by decide
theorem few9 {x1 x2 x3 x4 x5 x6 x7 x8 x9 : D} : few [x1, x2, x3, x4, x5, x6, x7, x8, x9] := show 9 ≤ sizeLine by decide
theorem few10 {x1 x2 x3 x4 x5 x6 x7 x8 x9 x10 : D} : few [x1, x2, x3, x4, x5, x6, x7, x8, x9, x10] := show 10 ≤ sizeLine by decide
theorem U.w_frz {x : M (List D)} : U.wp (frzE x S) Q E = U.wp (x S) (fun l S => Q (.lst l) S) E := by
  unfold frzE
  simp only [U.w_bind]
  rfl
theorem U.w_new {l : List D} : U.wp (newC l S) Q E = (flatL l = true ∧ Q (.ref S.length) (S ++ [⟨true, .lst l⟩])) := by
  unfold newC M.chg
  by_cases h : flatL l = true
  · simp only [if_pos h]; exact propext ⟨fun q => ⟨h, q⟩, fun q => q.2⟩
  · simp only [if_neg h]; exact propext ⟨fun q => q.elim, fun q => absurd q.1 h⟩
theorem U.w_cel {x : M (List D)} : U.wp (celE x S) Q E = U.wp (x S) (fun l S => flatL l = true ∧ Q (.ref S.length) (S ++ [⟨true, .lst l⟩])) E := by
  unfold celE
  simp only [U.w_bind, U.w_new]
theorem U.w_cb {op : List D → Cells → Option D} {x : M (List D)} : U.wp (cbE op x S) Q E = U.wp (x S) (fun l S => U.wpo (op l S) S Q) E := by
  unfold cbE
  simp only [U.w_bind, U.w_opt]
theorem U.w_cbL {op : List D → Cells → Option (List D)} {x : M (List D)} : U.wp (cbL op x S) QL E = U.wp (x S) (fun l S => U.wpo (op l S) S QL) E := by
  unfold cbL
  simp only [U.w_bind, U.w_opt]
/-- a def with n arguments -/
theorem U.w_ar {n : Nat} {g : List D → M α} {l : List D} {Q : α → Cells → Prop} (h : l.length = n) : U.wp (arity n g l S) Q E = U.wp (g l S) Q E := by
  unfold arity
  rw [if_pos h]
theorem U.w_call {n : Nat} {g : List D → M D} {x : M (List D)} : U.wp (callE n g x S) Q E = U.wp (x S) (fun l S => U.wp (arity n g l S) Q noE) E := by
  unfold callE
  simp only [U.w_bind, U.w_calm]
theorem U.w_callL {n : Nat} {g : List D → M (List D)} {x : M (List D)} : U.wp (callL n g x S) QL E = U.wp (x S) (fun l S => U.wp (arity n g l S) QL noE) E := by
  unfold callL
  simp only [U.w_bind, U.w_calm]
theorem U.w_ar0 {g : List D → M α} {Q : α → Cells → Prop} : U.wp (arity 0 g [] S) Q E = U.wp (g [] S) Q E := U.w_ar rfl
theorem U.w_ar1 {g : List D → M α} {Q : α → Cells → Prop} {x1 : D} : U.wp (arity 1 g [x1] S) Q E = U.wp (g [x1] S) Q E := U.w_ar rfl
theorem U.w_ar2 {g : List D → M α} {Q : α → Cells → Prop} {x1 x2 : D} : U.wp (arity 2 g [x1, x2] S) Q E = U.wp (g [x1, x2] S) Q E := U.w_ar rfl
theorem U.w_ar3 {g : List D → M α} {Q : α → Cells → Prop} {x1 x2 x3 : D} : U.wp (arity 3 g [x1, x2, x3] S) Q E = U.wp (g [x1, x2, x3] S) Q E := U.w_ar rfl
theorem U.w_ar4 {g : List D → M α} {Q : α → Cells → Prop} {x1 x2 x3 x4 : D} : U.wp (arity 4 g [x1, x2, x3, x4] S) Q E = U.wp (g [x1, x2, x3, x4] S) Q E := U.w_ar rfl
theorem U.w_ar5 {g : List D → M α} {Q : α → Cells → Prop} {x1 x2 x3 x4 x5 : D} : U.wp (arity 5 g [x1, x2, x3, x4, x5] S) Q E = U.wp (g [x1, x2, x3, x4, x5] S) Q E := U.w_ar rfl
theorem U.w_ar6 {g : List D → M α} {Q : α → Cells → Prop} {x1 x2 x3 x4 x5 x6 : D} : U.wp (arity 6 g [x1, x2, x3, x4, x5, x6] S) Q E = U.wp (g [x1, x2, x3, x4, x5, x6] S) Q E := U.w_ar rfl
variable {QO : Option Int → Cells → Prop}
theorem U.w_noO : U.wp (noO S) QO E = QO none S := nrfl rfl
theorem U.w_smO : U.wp (smO a S) QO E = U.wp (a S) (fun d S => U.wpo (partD d) S QO) E := by
  unfold smO
  simp only [U.w_bind, U.w_opt]
theorem U.w_sl {i j : M (Option Int)} : U.wp (slE a i j S) Q E = U.wp (a S) (fun d S => U.wp (i S) (fun i S => U.wp (j S) (fun j S => U.wpo (slD d i j S) S Q) E) E) E := by
  unfold slE
  simp only [U.w_bind, U.w_opt]
theorem U.w_slL {i j : M (Option Int)} : U.wp (slLL a i j S) QL E = U.wp (a S) (fun d S => U.wp (i S) (fun i S => U.wp (j S) (fun j S => U.wpo (slL d i j S) S QL) E) E) E := by
  unfold slLL
  simp only [U.w_bind, U.w_opt]
theorem U.w_rev : U.wp (revL a S) QL E = U.wp (a S) (fun d S => U.wpo ((seqL S d).map List.reverse) S QL) E := by
  unfold revL
  simp only [U.w_bind, U.w_opt]
theorem U.w_step : U.wp (stepL a b S) QL E = U.wp (a S) (fun d S => U.wp (b S) (fun y S => U.wpo (sliceStepD d y S) S QL) E) E := by
  unfold stepL
  simp only [U.w_bind, U.w_opt]
theorem U.w_isi {tab : String → Bool} : U.wp (isiE tab a S) Q E = U.wp (a S) (fun d S => U.wpo (isiD tab d S) S Q) E := by
  unfold isiE
  simp only [U.w_bind, U.w_opt]
theorem U.w_sets : U.wp (setsL a S) QL E = U.wp (a S) (fun d S => U.wpo (setSortD d S) S QL) E := by
  unfold setsL
  simp only [U.w_bind, U.w_opt]
theorem U.w_lrg {x : M (List D)} : U.wp (lrgL x S) QL E = U.wp (x S) (fun l S => U.wpo (rangeA l) S QL) E := by
  unfold lrgL
  simp only [U.w_bind, U.w_opt]
theorem U.w_mth {tn : String} {op : D → List D → Cells → Option (D × Cells)} {x : M (List D)} : U.wp (mthE tn op a x S) Q E = U.wp (a S) (fun d S => U.wpo (isTy tn d S) S fun _ S => U.wp (x S) (fun l S => U.wpc (op d l S) Q) E) E := by
  unfold mthE
  simp only [U.w_bind, U.w_opt, U.w_chg]
theorem U.w_mth0 {tn : String} {op : D → List D → Cells → Option (D × Cells)} : U.wp (mth0 tn op a S) Q E = U.wp (a S) (fun d S => U.wpo (isTy tn d S) S fun _ S => U.wpc (op d [] S) Q) E := by
  unfold mth0
  simp only [U.w_bind, U.w_opt, U.w_chg]
theorem U.w_itS : U.wp (itS a S) QL E = U.wp (a S) (fun d S => U.wpo (itemsD d) S QL) E := by
  unfold itS
  simp only [U.w_bind, U.w_opt]
theorem U.w_itR1 {x : M (List D)} : U.wp (itR1 x S) QL E = U.wp (x S) (fun l S => U.wpo (range1 l) S QL) E := by
  unfold itR1
  simp only [U.w_bind, U.w_opt]
theorem U.w_itR2 {x : M (List D)} : U.wp (itR2 x S) QL E = U.wp (x S) (fun l S => U.wpo (range2 l) S QL) E := by
  unfold itR2
  simp only [U.w_bind, U.w_opt]
theorem U.w_itR3 {x : M (List D)} : U.wp (itR3 x S) QL E = U.wp (x S) (fun l S => U.wpo (range3 l) S QL) E := by
  unfold itR3
  simp only [U.w_bind, U.w_opt]
theorem U.w_itZ {x : M (List D)} : U.wp (itZ x S) QL E = U.wp (x S) (fun l S => U.wpo (zipA l) S QL) E := by
  unfold itZ
  simp only [U.w_bind, U.w_opt]
theorem U.w_itN {x : M (List D)} : U.wp (itN x S) QL E = U.wp (x S) (fun l S => U.wpo (enumA l) S QL) E := by
  unfold itN
  simp only [U.w_bind, U.w_opt]
theorem U.w_lc {i : M (List D)} {p : Pat} {t : En → M Bool} {e : En → M D} {vs : List Nat} : U.wp (lcL i p t e ρ vs S) QL E = U.wp (i S) (fun items S => U.wp (compD p t e (wipeD ρ vs) items S) QL E) E := by
  unfold lcL
  simp only [U.w_bind]
theorem U.w_fz : U.wp (M.bind a fzM S) Q E = U.wp (a S) (fun d S => U.wp (fzM d S) Q E) E := U.w_bind
end
section
variable {S : Cells} {ρ : En} {N : En → Cells → Prop} {Rt : D → Cells → Prop} {E : Xc → En → Cells → Prop} {F G : SM} {f fo fi : En → M D}
theorem U.w_nx : U.wo (.nx ρ S) N Rt E = N ρ S := nrfl rfl
theorem U.w_rt {d : D} : U.wo (.rt d S) N Rt E = Rt d S := nrfl rfl
theorem U.w_seq : U.wo (seqS F G ρ S) N Rt E = U.wo (F ρ S) (fun ρ S => U.wo (G ρ S) N Rt E) Rt E := by
  unfold seqS
  cases F ρ S <;> rfl
theorem U.w_bS {f : En → M α} {g : α → SM} : U.wo (bindS f g ρ S) N Rt E = U.wp (f ρ S) (fun a S => U.wo (g a ρ S) N Rt E) (fun x S => E x ρ S) := by
  unfold bindS
  cases f ρ S <;> rfl
theorem U.w_set {i : Nat} : U.wo (setS i f ρ S) N Rt E = U.wp (f ρ S) (fun d S => N (ρ.set i (some d)) S) (fun x S => E x ρ S) := U.w_bS
def wPar (i j : Nat) (ρ : En) (N : En → Cells → Prop) (l : List D) (S : Cells) : Prop := match l with
  | [d, e] => N ((ρ.set i (some d)).set j (some e)) S
  | _ => False
theorem wPar_2 {i j : Nat} {d e : D} : wPar i j ρ N [d, e] S = N ((ρ.set i (some d)).set j (some e)) S := nrfl rfl
theorem U.w_par {i j : Nat} {x : En → M (List D)} : U.wo (parS i j x ρ S) N Rt E = U.wp (x ρ S) (wPar i j ρ N) (fun x S => E x ρ S) := by
  unfold parS
  rw [U.w_bS]
  congr 1
  funext l S
  unfold wPar
  match l with
  | [] => rfl
  | [_] => rfl
  | [_, _] => rfl
  | _ :: _ :: _ :: _ => rfl
theorem U.w_aug {i : Nat} {op : D → D → Cells → Option D} : U.wo (augS i op f ρ S) N Rt E = U.wp (rd ρ i S) (fun x S => U.wp (f ρ S) (fun y S => U.wpo (op x y S) S fun d S => N (ρ.set i (some d)) S) (fun x S => E x ρ S)) (fun x S => E x ρ S) := by
  unfold augS
  rw [U.w_bS]
  simp only [U.w_bind, U.w_opt]
  rfl
def wSto (o : Option Cells) (ρ : En) (N : En → Cells → Prop) : Prop := match o with
  | some S => N ρ S
  | none => False
theorem U.w_sto : U.wo (stoS f fo fi ρ S) N Rt E = U.wp (f ρ S) (fun y S => U.wp (fo ρ S) (fun d S => U.wp (fi ρ S) (fun k S => wSto (setAtD d k y S) ρ N) (fun x S => E x ρ S)) (fun x S => E x ρ S)) (fun x S => E x ρ S) := by
  unfold stoS
  simp only [U.w_bS]
  congr 1
  funext y S
  congr 1
  funext d S
  congr 1
  funext k S
  cases setAtD d k y S <;> rfl
theorem U.w_exp : U.wo (expS f ρ S) N Rt E = U.wp (f ρ S) (fun _ S => N ρ S) (fun x S => E x ρ S) := U.w_bS
theorem U.w_ret : U.wo (retS f ρ S) N Rt E = U.wp (f ρ S) Rt (fun x S => E x ρ S) := U.w_bS
theorem U.w_retN : U.wo (retNS ρ S) N Rt E = Rt .non S := nrfl rfl
theorem U.w_nxS : U.wo (nxS ρ S) N Rt E = N ρ S := nrfl rfl
theorem U.w_ifS {c : En → M Bool} : U.wo (ifS c F G ρ S) N Rt E = U.wp (c ρ S) (fun k S => U.wif k (U.wo (F ρ S) N Rt E) (U.wo (G ρ S) N Rt E)) (fun x S => E x ρ S) := by
  unfold ifS
  rw [U.w_bS]
  congr 1
  funext k S
  cases k <;> simp [U.wif]
theorem U.w_for {x : En → M (List D)} {p : Pat} : U.wo (forS x p F ρ S) N Rt E = U.wp (x ρ S) (fun items S => U.wo (forD p F items ρ S) N Rt E) (fun x S => E x ρ S) := U.w_bS
def wAsg (p : Pat) (ρ : En) (N : En → Cells → Prop) (d : D) (S : Cells) : Prop := match p.put d ρ with
  | some ρ' => N ρ' S
  | none => False
theorem U.w_asg {p : Pat} : U.wo (asgD f p ρ S) N Rt E = U.wp (f ρ S) (wAsg p ρ N) (fun x S => E x ρ S) := by
  unfold asgD
  rw [U.w_bS]
  congr 1
  funext d S
  unfold wAsg
  cases p.put d ρ <;> rfl
theorem U.w_stk : U.wo (stkS ρ S) N Rt E = False := nrfl rfl
/-! a def's end -/
def wret (n : Nat) (S : Cells) (d : D) (Q : D → Cells → Prop) : Prop := match resv n S d with
  | some d' => Q d' (S.take n)
  | none => False
def wretL (n : Nat) (S : Cells) (d : D) (Q : List D → Cells → Prop) : Prop := match d with
  | .ref m => n ≤ m ∧ ∃ l, S[m]? = some ⟨true, .lst l⟩ ∧ Q l (S.take n)
  | _ => False
theorem U.w_body {Nn : Nat} {B : SM} {ds : List D} {Q : D → Cells → Prop} {E : Xc → Cells → Prop} : U.wp (bodyD Nn B ds S) Q E = U.wo (B (startD Nn ds) S) (fun _ S1 => Q .non (S1.take S.length)) (fun d S1 => wret S.length S1 d Q) (fun x _ S1 => E x (S1.take S.length)) := by
  unfold bodyD
  cases B (startD Nn ds) S with
  | rt d S1 =>
    show U.wp (retD S.length S1 (resv S.length S1 d)) Q E = wret S.length S1 d Q
    unfold wret
    cases resv S.length S1 d <;> rfl
  | _ => rfl
theorem U.w_bodyL {Nn : Nat} {B : SM} {ds : List D} {Q : List D → Cells → Prop} {E : Xc → Cells → Prop} : U.wp (bodyL Nn B ds S) Q E = U.wo (B (startD Nn ds) S) (fun _ _ => False) (fun d S1 => wretL S.length S1 d Q) (fun x _ S1 => E x (S1.take S.length)) := by
  unfold bodyL
  cases B (startD Nn ds) S with
  | rt d S1 =>
    cases d with
    | ref m =>
      show U.wp (if S.length ≤ m then (match S1[m]? with
        | some ⟨true, .lst l⟩ => .ok l (S1.take S.length)
        | _ => .stuck : DL.R (List D)) else .stuck) Q E = (S.length ≤ m ∧ ∃ l, S1[m]? = some ⟨true, .lst l⟩ ∧ Q l (S1.take S.length))
      by_cases h : S.length ≤ m
      · rw [if_pos h]
        refine propext ⟨fun q => ⟨h, ?_⟩, fun ⟨_, l, e, q⟩ => by rw [e]; exact q⟩
        split at q
        · rename_i l e
          exact ⟨l, e, q⟩
        · exact q.elim
      · rw [if_neg h]
        exact propext ⟨fun q => q.elim, fun q => absurd q.1 h⟩
    | _ => rfl
  | _ => rfl
variable {n : Nat} {Q : D → Cells → Prop}
theorem wret_non : wret n S .non Q = Q .non (S.take n) := nrfl rfl
theorem wret_bl {b : Bool} : wret n S (.bl b) Q = Q (.bl b) (S.take n) := nrfl rfl
theorem wret_int {b : Int} : wret n S (.int b) Q = Q (.int b) (S.take n) := nrfl rfl
theorem wret_str {b : Str} : wret n S (.str b) Q = Q (.str b) (S.take n) := nrfl rfl
theorem wret_flat {d : D} (h : d.flat = true) : wret n S d Q = Q d (S.take n) := by
  unfold wret
  rw [resv_flat _ _ _ h]
/-- a changed list is handed back as a new one -/
theorem wret_ref {m : Nat} {b : Bool} {l : List D} (hn : n ≤ m) (h : S[m]? = some ⟨b, .lst l⟩) : wret n S (.ref m) Q = Q (.lst l) (S.take n) := by
  unfold wret resv
  rw [if_neg (by omega), h]
theorem wretL_ref {m : Nat} {l : List D} {Q : List D → Cells → Prop} (hn : n ≤ m) (h : S[m]? = some ⟨true, .lst l⟩) (q : Q l (S.take n)) : wretL n S (.ref m) Q := ⟨hn, l, h, q⟩
end
/-! tests -/
section
variable {A B : Prop}
theorem U.wif_t : U.wif true A B = A := by simp [U.wif]
theorem U.wif_f : U.wif false A B = B := by simp [U.wif]
theorem U.wif_d {p : Prop} [Decidable p] : U.wif (decide p) A B = ((p → A) ∧ (¬ p → B)) := by simp [U.wif]
theorem U.wif_n {b : Bool} : U.wif (!b) A B = U.wif b B A := by cases b <;> simp [U.wif]
theorem U.wif_a {a b : Bool} : U.wif (a && b) A B = U.wif a (U.wif b A B) B := by cases a <;> cases b <;> simp [U.wif]
theorem U.wif_o {a b : Bool} : U.wif (a || b) A B = U.wif a A (U.wif b A B) := by cases a <;> cases b <;> simp [U.wif]
end
end
/-! the same with a tag: what follows is not looked into when one rewrites -/
section
variable {α β γ : Type}
inductive Tg {α : Sort u} (a : α) : Type
  | mk
def wp (r : DL.R α) (Q : α → Cells → Prop) (E : Xc → Cells → Prop) (t : Tg (PProd.mk Q E) := .mk) : Prop := U.wp r Q E
def wpo (o : Option α) (S : Cells) (Q : α → Cells → Prop) (t : Tg Q := .mk) : Prop := U.wpo o S Q
def wpc (o : Option (α × Cells)) (Q : α → Cells → Prop) (t : Tg Q := .mk) : Prop := U.wpc o Q
def wif (b : Bool) (A B : Prop) (t : Tg (A ∧ B) := .mk) : Prop := U.wif b A B
def wo (o : Out) (N : En → Cells → Prop) (Rt : D → Cells → Prop) (E : Xc → En → Cells → Prop) (t : Tg (PProd.mk N (PProd.mk Rt E)) := .mk) : Prop := U.wo o N Rt E
end
section
variable {α β γ : Type}
theorem wp_ok {r : DL.R α} {a : α} {S : Cells} (h : wp r (fun b T => b = a ∧ T = S) noE) : r = .ok a S := U.wp_ok h
theorem wp_of {r : DL.R α} {a : α} {S : Cells} {Q : α → Cells → Prop} {E : Xc → Cells → Prop} (e : r = .ok a S) (h : Q a S) : wp r Q E := U.wp_of e h
theorem wp_mono {r : DL.R α} {Q Q' : α → Cells → Prop} {E E' : Xc → Cells → Prop} (h : wp r Q E) (hq : ∀ a S, Q a S → Q' a S) (he : ∀ x S, E x S → E' x S) : wp r Q' E' := U.wp_mono h hq he
theorem wp_ex {r : DL.R α} {Q : α → Cells → Prop} (h : wp r Q noE) : ∃ a S, r = .ok a S ∧ Q a S := U.wp_ex h
theorem wo_mono {o : Out} {N N' : En → Cells → Prop} {R R' : D → Cells → Prop} {E E' : Xc → En → Cells → Prop} (h : wo o N R E) (hn : ∀ ρ S, N ρ S → N' ρ S) (hr : ∀ d S, R d S → R' d S) (he : ∀ x ρ S, E x ρ S → E' x ρ S) : wo o N' R' E' := U.wo_mono h hn hr he
section
variable {a b c : M D} {S : Cells} {ρ : En} {Q : D → Cells → Prop} {QL : List D → Cells → Prop} {QB : Bool → Cells → Prop} {E : Xc → Cells → Prop}
theorem w_ok {a : α} {Q : α → Cells → Prop} : wp (.ok a S) Q E = Q a S := U.w_ok
theorem w_some {a : α} {Q : α → Cells → Prop} : wpo (some a) S Q = Q a S := U.w_some
theorem w_somec {a : α} {Q : α → Cells → Prop} : wpc (some (a, S)) Q = Q a S := U.w_somec
theorem w_bind {f : M α} {g : α → M β} {Q : β → Cells → Prop} : wp (M.bind f g S) Q E = wp (f S) (fun a S => wp (g a S) Q E) E := U.w_bind
theorem w_opt {f : Cells → Option α} {Q : α → Cells → Prop} : wp (M.opt f S) Q E = wpo (f S) S Q := U.w_opt
theorem w_chg {f : Cells → Option (α × Cells)} {Q : α → Cells → Prop} : wp (M.chg f S) Q E = wpc (f S) Q := U.w_chg
theorem w_kon {d : D} : wp (kon d S) Q E = Q d S := U.w_kon
theorem w_calm {f : M α} {Q : α → Cells → Prop} : wp (calmM f S) Q E = wp (f S) Q noE := U.w_calm
theorem w_b2 {op : D → D → Cells → Option D} : wp (b2 op a b S) Q E = wp (a S) (fun x S => wp (b S) (fun y S => wpo (op x y S) S Q) E) E := U.w_b2
theorem w_b2L {op : D → D → Cells → Option (List D)} : wp (b2L op a b S) QL E = wp (a S) (fun x S => wp (b S) (fun y S => wpo (op x y S) S QL) E) E := U.w_b2L
theorem w_b1 {op : D → Cells → Option D} : wp (b1 op a S) Q E = wp (a S) (fun x S => wpo (op x S) S Q) E := U.w_b1
theorem w_asB {d : D} : wpo (asB d) S QB = wB QB d S := U.w_asB
theorem w_b2T {op : D → D → Cells → Option D} : wp (b2T op a b S) QB E = wp (a S) (fun x S => wp (b S) (fun y S => wpo (op x y S) S (wB QB)) E) E := U.w_b2T
theorem w_if {k : Bool} {x y : M α} {Q : α → Cells → Prop} : wp ((if k = true then x else y) S) Q E = wif k (wp (x S) Q E) (wp (y S) Q E) := U.w_if
theorem w_chE {op op' : D → D → Cells → Option D} : wp (chE op op' a b c S) Q E = wp (a S) (fun x S => wp (b S) (fun y S => wpo (op x y S) S (wB fun k S => wif k (wp (c S) (fun z S => wpo (op' y z S) S Q) E) (Q (.bl false) S))) E) E := U.w_chE
theorem w_chT {op op' : D → D → Cells → Option D} : wp (chT op op' a b c S) QB E = wp (chE op op' a b c S) (wB QB) E := U.w_chT
theorem w_not {x : M Bool} : wp (notT x S) QB E = wp (x S) (fun c S => QB (!c) S) E := U.w_not
theorem w_val : wp (valT a S) QB E = wp (a S) (fun d S => wpo (truD d S) S QB) E := U.w_val
theorem w_notE : wp (notE a S) Q E = wp (a S) (wB fun c S => Q (.bl (!c)) S) E := U.w_notE
theorem w_ifE {k : M Bool} : wp (ifE k a b S) Q E = wp (k S) (fun k S => wif k (wp (a S) Q E) (wp (b S) Q E)) E := U.w_ifE
theorem w_ifL {k : M Bool} {x y : M (List D)} : wp (ifL k x y S) QL E = wp (k S) (fun k S => wif k (wp (x S) QL E) (wp (y S) QL E)) E := U.w_ifL
theorem w_andM {x y : M Bool} : wp (andM x y S) QB E = wp (x S) (fun k S => wif k (wp (y S) QB E) (QB false S)) E := U.w_andM
theorem w_orM {x y : M Bool} : wp (orM x y S) QB E = wp (x S) (fun k S => wif k (QB true S) (wp (y S) QB E)) E := U.w_orM
theorem w_andE : wp (andE a b S) Q E = wp (a S) (wB fun k S => wif k (wp (b S) Q E) (Q (.bl false) S)) E := U.w_andE
theorem w_orE : wp (orE a b S) Q E = wp (a S) (wB fun k S => wif k (Q (.bl true) S) (wp (b S) Q E)) E := U.w_orE
theorem w_nil : wp (nilA S) QL E = QL [] S := U.w_nil
theorem w_cons {x : M D} {y : M (List D)} : wp (consM x y S) QL E = wp (x S) (fun d S => wp (y S) (fun l S => QL (d :: l) S) E) E := U.w_cons
theorem w_tup {x : M (List D)} : wp (tupE x S) Q E = wp (x S) (fun l S => few l ∧ Q (.tup l) S) E := U.w_tup
theorem w_lst {x : M (List D)} : wp (lstE x S) QL E = wp (x S) (fun l S => few l ∧ QL l S) E := U.w_lst
theorem w_frz {x : M (List D)} : wp (frzE x S) Q E = wp (x S) (fun l S => Q (.lst l) S) E := U.w_frz
theorem w_new {l : List D} : wp (newC l S) Q E = (flatL l = true ∧ Q (.ref S.length) (S ++ [⟨true, .lst l⟩])) := U.w_new
theorem w_cel {x : M (List D)} : wp (celE x S) Q E = wp (x S) (fun l S => flatL l = true ∧ Q (.ref S.length) (S ++ [⟨true, .lst l⟩])) E := U.w_cel
theorem w_cb {op : List D → Cells → Option D} {x : M (List D)} : wp (cbE op x S) Q E = wp (x S) (fun l S => wpo (op l S) S Q) E := U.w_cb
theorem w_cbL {op : List D → Cells → Option (List D)} {x : M (List D)} : wp (cbL op x S) QL E = wp (x S) (fun l S => wpo (op l S) S QL) E := U.w_cbL
theorem w_ar {n : Nat} {g : List D → M α} {l : List D} {Q : α → Cells → Prop} (h : l.length = n) : wp (arity n g l S) Q E = wp (g l S) Q E := U.w_ar h
theorem w_call {n : Nat} {g : List D → M D} {x : M (List D)} : wp (callE n g x S) Q E = wp (x S) (fun l S => wp (arity n g l S) Q noE) E := U.w_call
theorem w_callL {n : Nat} {g : List D → M (List D)} {x : M (List D)} : wp (callL n g x S) QL E = wp (x S) (fun l S => wp (arity n g l S) QL noE) E := U.w_callL
theorem w_ar0 {g : List D → M α} {Q : α → Cells → Prop} : wp (arity 0 g [] S) Q E = wp (g [] S) Q E := U.w_ar0
theorem w_ar1 {g : List D → M α} {Q : α → Cells → Prop} {x1 : D} : wp (arity 1 g [x1] S) Q E = wp (g [x1] S) Q E := U.w_ar1
theorem w_ar2 {g : List D → M α} {Q : α → Cells → Prop} {x1 x2 : D} : wp (arity 2 g [x1, x2] S) Q E = wp (g [x1, x2] S) Q E := U.w_ar2
theorem w_ar3 {g : List D → M α} {Q : α → Cells → Prop} {x1 x2 x3 : D} : wp (arity 3 g [x1, x2, x3] S) Q E = wp (g [x1, x2, x3] S) Q E := U.w_ar3
theorem w_ar4 {g : List D → M α} {Q : α → Cells → Prop} {x1 x2 x3 x4 : D} : wp (arity 4 g [x1, x2, x3, x4] S) Q E = wp (g [x1, x2, x3, x4] S) Q E := U.w_ar4
theorem w_ar5 {g : List D → M α} {Q : α → Cells → Prop} {x1 x2 x3 x4 x5 : D} : wp (arity 5 g [x1, x2, x3, x4, x5] S) Q E = wp (g [x1, x2, x3, x4, x5] S) Q E := U.w_ar5
theorem w_ar6 {g : List D → M α} {Q : α → Cells → Prop} {x1 x2 x3 x4 x5 x6 : D} : wp (arity 6 g [x1, x2, x3, x4, x5, x6] S) Q E = wp (g [x1, x2, x3, x4, x5, x6] S) Q E := U.w_ar6
variable {QO : Option Int → Cells → Prop}
theorem w_noO : wp (noO S) QO E = QO none S := U.w_noO
theorem w_smO : wp (smO a S) QO E = wp (a S) (fun d S => wpo (partD d) S QO) E := U.w_smO
theorem w_sl {i j : M (Option Int)} : wp (slE a i j S) Q E = wp (a S) (fun d S => wp (i S) (fun i S => wp (j S) (fun j S => wpo (slD d i j S) S Q) E) E) E := U.w_sl
theorem w_slL {i j : M (Option Int)} : wp (slLL a i j S) QL E = wp (a S) (fun d S => wp (i S) (fun i S => wp (j S) (fun j S => wpo (slL d i j S) S QL) E) E) E := U.w_slL
theorem w_rev : wp (revL a S) QL E = wp (a S) (fun d S => wpo ((seqL S d).map List.reverse) S QL) E := U.w_rev
theorem w_step : wp (stepL a b S) QL E = wp (a S) (fun d S => wp (b S) (fun y S => wpo (sliceStepD d y S) S QL) E) E := U.w_step
theorem w_isi {tab : String → Bool} : wp (isiE tab a S) Q E = wp (a S) (fun d S => wpo (isiD tab d S) S Q) E := U.w_isi
theorem w_sets : wp (setsL a S) QL E = wp (a S) (fun d S => wpo (setSortD d S) S QL) E := U.w_sets
theorem w_lrg {x : M (List D)} : wp (lrgL x S) QL E = wp (x S) (fun l S => wpo (rangeA l) S QL) E := U.w_lrg
theorem w_mth {tn : String} {op : D → List D → Cells → Option (D × Cells)} {x : M (List D)} : wp (mthE tn op a x S) Q E = wp (a S) (fun d S => wpo (isTy tn d S) S fun _ S => wp (x S) (fun l S => wpc (op d l S) Q) E) E := U.w_mth
theorem w_mth0 {tn : String} {op : D → List D → Cells → Option (D × Cells)} : wp (mth0 tn op a S) Q E = wp (a S) (fun d S => wpo (isTy tn d S) S fun _ S => wpc (op d [] S) Q) E := U.w_mth0
theorem w_itS : wp (itS a S) QL E = wp (a S) (fun d S => wpo (itemsD d) S QL) E := U.w_itS
theorem w_itR1 {x : M (List D)} : wp (itR1 x S) QL E = wp (x S) (fun l S => wpo (range1 l) S QL) E := U.w_itR1
theorem w_itR2 {x : M (List D)} : wp (itR2 x S) QL E = wp (x S) (fun l S => wpo (range2 l) S QL) E := U.w_itR2
theorem w_itR3 {x : M (List D)} : wp (itR3 x S) QL E = wp (x S) (fun l S => wpo (range3 l) S QL) E := U.w_itR3
theorem w_itZ {x : M (List D)} : wp (itZ x S) QL E = wp (x S) (fun l S => wpo (zipA l) S QL) E := U.w_itZ
theorem w_itN {x : M (List D)} : wp (itN x S) QL E = wp (x S) (fun l S => wpo (enumA l) S QL) E := U.w_itN
theorem w_lc {i : M (List D)} {p : Pat} {t : En → M Bool} {e : En → M D} {vs : List Nat} : wp (lcL i p t e ρ vs S) QL E = wp (i S) (fun items S => wp (compD p t e (wipeD ρ vs) items S) QL E) E := U.w_lc
theorem w_fz : wp (M.bind a fzM S) Q E = wp (a S) (fun d S => wp (fzM d S) Q E) E := U.w_fz
end
section
variable {S : Cells} {ρ : En} {N : En → Cells → Prop} {Rt : D → Cells → Prop} {E : Xc → En → Cells → Prop} {F G : SM} {f fo fi : En → M D}
theorem w_nx : wo (.nx ρ S) N Rt E = N ρ S := U.w_nx
theorem w_rt {d : D} : wo (.rt d S) N Rt E = Rt d S := U.w_rt
theorem w_seq : wo (seqS F G ρ S) N Rt E = wo (F ρ S) (fun ρ S => wo (G ρ S) N Rt E) Rt E := U.w_seq
theorem w_bS {f : En → M α} {g : α → SM} : wo (bindS f g ρ S) N Rt E = wp (f ρ S) (fun a S => wo (g a ρ S) N Rt E) (fun x S => E x ρ S) := U.w_bS
theorem w_set {i : Nat} : wo (setS i f ρ S) N Rt E = wp (f ρ S) (fun d S => N (ρ.set i (some d)) S) (fun x S => E x ρ S) := U.w_set
theorem w_par {i j : Nat} {x : En → M (List D)} : wo (parS i j x ρ S) N Rt E = wp (x ρ S) (wPar i j ρ N) (fun x S => E x ρ S) := U.w_par
theorem w_aug {i : Nat} {op : D → D → Cells → Option D} : wo (augS i op f ρ S) N Rt E = wp (rd ρ i S) (fun x S => wp (f ρ S) (fun y S => wpo (op x y S) S fun d S => N (ρ.set i (some d)) S) (fun x S => E x ρ S)) (fun x S => E x ρ S) := U.w_aug
theorem w_sto : wo (stoS f fo fi ρ S) N Rt E = wp (f ρ S) (fun y S => wp (fo ρ S) (fun d S => wp (fi ρ S) (fun k S => wSto (setAtD d k y S) ρ N) (fun x S => E x ρ S)) (fun x S => E x ρ S)) (fun x S => E x ρ S) := U.w_sto
theorem w_exp : wo (expS f ρ S) N Rt E = wp (f ρ S) (fun _ S => N ρ S) (fun x S => E x ρ S) := U.w_exp
theorem w_ret : wo (retS f ρ S) N Rt E = wp (f ρ S) Rt (fun x S => E x ρ S) := U.w_ret
theorem w_retN : wo (retNS ρ S) N Rt E = Rt .non S := U.w_retN
theorem w_nxS : wo (nxS ρ S) N Rt E = N ρ S := U.w_nxS
theorem w_ifS {c : En → M Bool} : wo (ifS c F G ρ S) N Rt E = wp (c ρ S) (fun k S => wif k (wo (F ρ S) N Rt E) (wo (G ρ S) N Rt E)) (fun x S => E x ρ S) := U.w_ifS
theorem w_for {x : En → M (List D)} {p : Pat} : wo (forS x p F ρ S) N Rt E = wp (x ρ S) (fun items S => wo (forD p F items ρ S) N Rt E) (fun x S => E x ρ S) := U.w_for
theorem w_asg {p : Pat} : wo (asgD f p ρ S) N Rt E = wp (f ρ S) (wAsg p ρ N) (fun x S => E x ρ S) := U.w_asg
theorem w_stk : wo (stkS ρ S) N Rt E = False := U.w_stk
theorem w_body {Nn : Nat} {B : SM} {ds : List D} {Q : D → Cells → Prop} {E : Xc → Cells → Prop} : wp (bodyD Nn B ds S) Q E = wo (B (startD Nn ds) S) (fun _ S1 => Q .non (S1.take S.length)) (fun d S1 => wret S.length S1 d Q) (fun x _ S1 => E x (S1.take S.length)) := U.w_body
theorem w_bodyL {Nn : Nat} {B : SM} {ds : List D} {Q : List D → Cells → Prop} {E : Xc → Cells → Prop} : wp (bodyL Nn B ds S) Q E = wo (B (startD Nn ds) S) (fun _ _ => False) (fun d S1 => wretL S.length S1 d Q) (fun x _ S1 => E x (S1.take S.length)) := U.w_bodyL
variable {n : Nat} {Q : D → Cells → Prop}
end
section
variable {A B : Prop}
theorem wif_t : wif true A B = A := U.wif_t
theorem wif_f : wif false A B = B := U.wif_f
theorem wif_d {p : Prop} [Decidable p] : wif (decide p) A B = ((p → A) ∧ (¬ p → B)) := U.wif_d
theorem wif_n {b : Bool} : wif (!b) A B = wif b B A := U.wif_n
theorem wif_a {a b : Bool} : wif (a && b) A B = wif a (wif b A B) B := U.wif_a
theorem wif_o {a b : Bool} : wif (a || b) A B = wif a A (wif b A B) := U.wif_o
end
end
end DL
end
section
set_option maxHeartbeats 4000000
/-! DX: rules by forms. -/
namespace DL
open PySem PySem.Spec L2
open PyProof.Rows hiding St
section
variable {α : Type} {S S' : Cells} {ρ : En} {Q : D → Cells → Prop} {QL : List D → Cells → Prop} {E : Xc → Cells → Prop} {N : En → Cells → Prop} {d e : D} {i j k : Int} {x y : Str} {l m : List D}
theorem r0 : wp (rd (some d :: ρ) 0 S) Q E = Q d S := nrfl rfl
theorem r1 {x0 : Option D} : wp (rd (x0 :: some d :: ρ) 1 S) Q E = Q d S := nrfl rfl
theorem r2 {x0 x1 : Option D} : wp (rd (x0 :: x1 :: some d :: ρ) 2 S) Q E = Q d S := nrfl rfl
theorem r3 {x0 x1 x2 : Option D} : wp (rd (x0 :: x1 :: x2 :: some d :: ρ) 3 S) Q E = Q d S := nrfl rfl
theorem r4 {x0 x1 x2 x3 : Option D} : wp (rd (x0 :: x1 :: x2 :: x3 :: some d :: ρ) 4 S) Q E = Q d S := nrfl rfl
theorem r5 {x0 x1 x2 x3 x4 : Option D} : wp (rd (x0 :: x1 :: x2 :: x3 :: x4 :: some d :: ρ) 5 S) Q E = Q d S := nrfl rfl
theorem r6 {x0 x1 x2 x3 x4 x5 : Option D} : wp (rd (x0 :: x1 :: x2 :: x3 :: x4 :: x5 :: some d :: ρ) 6 S) Q E = Q d S := nrfl rfl
theorem r7 {x0 x1 x2 x3 x4 x5 x6 : Option D} : wp (rd (x0 :: x1 :: x2 :: x3 :: x4 :: x5 :: x6 :: some d :: ρ) 7 S) Q E = Q d S := nrfl rfl
theorem r8 {x0 x1 x2 x3 x4 x5 x6 x7 : Option D} : wp (rd (x0 :: x1 :: x2 :: x3 :: x4 :: x5 :: x6 :: x7 :: some d :: ρ) 8 S) Q E = Q d S := nrfl rfl
theorem r9 {x0 x1 x2 x3 x4 x5 x6 x7 x8 : Option D} : wp (rd (x0 :: x1 :: x2 :: x3 :: x4 :: x5 :: x6 :: x7 :: x8 :: some d :: ρ) 9 S) Q E = Q d S := nrfl rfl
theorem r10 {x0 x1 x2 x3 x4 x5 x6 x7 x8 x9 : Option D} : wp (rd (x0 :: x1 :: x2 :: x3 :: x4 :: x5 :: x6 :: x7 :: x8 :: x9 :: some d :: ρ) 10 S) Q E = Q d S := nrfl rfl
theorem r11 {x0 x1 x2 x3 x4 x5 x6 x7 x8 x9 x10 : Option D} : wp (rd (x0 :: x1 :: x2 :: x3 :: x4 :: x5 :: x6 :: x7 :: x8 :: x9 :: x10 :: some d :: ρ) 11 S) Q E = Q d S := nrfl rfl
theorem r12 {x0 x1 x2 x3 x4 x5 x6 x7 x8 x9 x10 x11 : Option D} : wp (rd (x0 :: x1 :: x2 :: x3 :: x4 :: x5 :: x6 :: x7 :: x8 :: x9 :: x10 :: x11 :: some d :: ρ) 12 S) Q E = Q d S := nrfl rfl
theorem r13 {x0 x1 x2 x3 x4 x5 x6 x7 x8 x9 x10 x11 x12 : Option D} : wp (rd (x0 :: x1 :: x2 :: x3 :: x4 :: x5 :: x6 :: x7 :: x8 :: x9 :: x10 :: x11 :: x12 :: some d :: ρ) 13 S) Q E = Q d S := nrfl rfl
theorem r14 {x0 x1 x2 x3 x4 x5 x6 x7 x8 x9 x10 x11 x12 x13 : Option D} : wp (rd (x0 :: x1 :: x2 :: x3 :: x4 :: x5 :: x6 :: x7 :: x8 :: x9 :: x10 :: x11 :: x12 :: x13 :: some d :: ρ) 14 S) Q E = Q d S := nrfl rfl
theorem r15 {x0 x1 x2 x3 x4 x5 x6 x7 x8 x9 x10 x11 x12 x13 x14 : Option D} : wp (rd (x0 :: x1 :: x2 :: x3 :: x4 :: x5 :: x6 :: x7 :: x8 :: x9 :: x10 :: x11 :: x12 :: x13 :: x14 :: some d :: ρ) 15 S) Q E = Q d S := nrfl rfl
theorem r16 {x0 x1 x2 x3 x4 x5 x6 x7 x8 x9 x10 x11 x12 x13 x14 x15 : Option D} : wp (rd (x0 :: x1 :: x2 :: x3 :: x4 :: x5 :: x6 :: x7 :: x8 :: x9 :: x10 :: x11 :: x12 :: x13 :: x14 :: x15 :: some d :: ρ) 16 S) Q E = Q d S := nrfl rfl
theorem r17 {x0 x1 x2 x3 x4 x5 x6 x7 x8 x9 x10 x11 x12 x13 x14 x15 x16 : Option D} : wp (rd (x0 :: x1 :: x2 :: x3 :: x4 :: x5 :: x6 :: x7 :: x8 :: x9 :: x10 :: x11 :: x12 :: x13 :: x14 :: x15 :: x16 :: some d :: ρ) 17 S) Q E = Q d S := nrfl rfl
theorem r18 {x0 x1 x2 x3 x4 x5 x6 x7 x8 x9 x10 x11 x12 x13 x14 x15 x16 x17 : Option D} : wp (rd (x0 :: x1 :: x2 :: x3 :: x4 :: x5 :: x6 :: x7 :: x8 :: x9 :: x10 :: x11 :: x12 :: x13 :: x14 :: x15 :: x16 :: x17 :: some d :: ρ) 18 S) Q E = Q d S := nrfl rfl
theorem r19 {x0 x1 x2 x3 x4 x5 x6 x7 x8 x9 x10 x11 x12 x13 x14 x15 x16 x17 x18 : Option D} : wp (rd (x0 :: x1 :: x2 :: x3 :: x4 :: x5 :: x6 :: x7 :: x8 :: x9 :: x10 :: x11 :: x12 :: x13 :: x14 :: x15 :: x16 :: x17 :: x18 :: some d :: ρ) 19 S) Q E = Q d S := nrfl rfl
theorem r20 {x0 x1 x2 x3 x4 x5 x6 x7 x8 x9 x10 x11 x12 x13 x14 x15 x16 x17 x18 x19 : Option D} : wp (rd (x0 :: x1 :: x2 :: x3 :: x4 :: x5 :: x6 :: x7 :: x8 :: x9 :: x10 :: x11 :: x12 :: x13 :: x14 :: x15 :: x16 :: x17 :: x18 :: x19 :: some d :: ρ) 20 S) Q E = Q d S := nrfl rfl
theorem r21 {x0 x1 x2 x3 x4 x5 x6 x7 x8 x9 x10 x11 x12 x13 x14 x15 x16 x17 x18 x19 x20 : Option D} : wp (rd (x0 :: x1 :: x2 :: x3 :: x4 :: x5 :: x6 :: x7 :: x8 :: x9 :: x10 :: x11 :: x12 :: x13 :: x14 :: x15 :: x16 :: x17 :: x18 :: x19 :: x20 :: some d :: ρ) 21 S) Q E = Q d S := nrfl rfl
theorem r22 {x0 x1 x2 x3 x4 x5 x6 x7 x8 x9 x10 x11 x12 x13 x14 x15 x16 x17 x18 x19 x20 x21 : Option D} : wp (rd (x0 :: x1 :: x2 :: x3 :: x4 :: x5 :: x6 :: x7 :: x8 :: x9 :: x10 :: x11 :: x12 :: x13 :: x14 :: x15 :: x16 :: x17 :: x18 :: x19 :: x20 :: x21 :: some d :: ρ) 22 S) Q E = Q d S := nrfl rfl
theorem r23 {x0 x1 x2 x3 x4 x5 x6 x7 x8 x9 x10 x11 x12 x13 x14 x15 x16 x17 x18 x19 x20 x21 x22 : Option D} : wp (rd (x0 :: x1 :: x2 :: x3 :: x4 :: x5 :: x6 :: x7 :: x8 :: x9 :: x10 :: x11 :: x12 :: x13 :: x14 :: x15 :: x16 :: x17 :: x18 :: x19 :: x20 :: x21 :: x22 :: some d :: ρ) 23 S) Q E = Q d S := nrfl rfl
theorem r24 {x0 x1 x2 x3 x4 x5 x6 x7 x8 x9 x10 x11 x12 x13 x14 x15 x16 x17 x18 x19 x20 x21 x22 x23 : Option D} : wp (rd (x0 :: x1 :: x2 :: x3 :: x4 :: x5 :: x6 :: x7 :: x8 :: x9 :: x10 :: x11 :: x12 :: x13 :: x14 :: x15 :: x16 :: x17 :: x18 :: x19 :: x20 :: x21 :: x22 :: x23 :: some d :: ρ) 24 S) Q E = Q d S := nrfl rfl
theorem r25 {x0 x1 x2 x3 x4 x5 x6 x7 x8 x9 x10 x11 x12 x13 x14 x15 x16 x17 x18 x19 x20 x21 x22 x23 x24 : Option D} : wp (rd (x0 :: x1 :: x2 :: x3 :: x4 :: x5 :: x6 :: x7 :: x8 :: x9 :: x10 :: x11 :: x12 :: x13 :: x14 :: x15 :: x16 :: x17 :: x18 :: x19 :: x20 :: x21 :: x22 :: x23 :: x24 :: some d :: ρ) 25 S) Q E = Q d S := nrfl rfl
theorem r26 {x0 x1 x2 x3 x4 x5 x6 x7 x8 x9 x10 x11 x12 x13 x14 x15 x16 x17 x18 x19 x20 x21 x22 x23 x24 x25 : Option D} : wp (rd (x0 :: x1 :: x2 :: x3 :: x4 :: x5 :: x6 :: x7 :: x8 :: x9 :: x10 :: x11 :: x12 :: x13 :: x14 :: x15 :: x16 :: x17 :: x18 :: x19 :: x20 :: x21 :: x22 :: x23 :: x24 :: x25 :: some d :: ρ) 26 S) Q E = Q d S := nrfl rfl
theorem r27 {x0 x1 x2 x3 x4 x5 x6 x7 x8 x9 x10 x11 x12 x13 x14 x15 x16 x17 x18 x19 x20 x21 x22 x23 x24 x25 x26 : Option D} : wp (rd (x0 :: x1 :: x2 :: x3 :: x4 :: x5 :: x6 :: x7 :: x8 :: x9 :: x10 :: x11 :: x12 :: x13 :: x14 :: x15 :: x16 :: x17 :: x18 :: x19 :: x20 :: x21 :: x22 :: x23 :: x24 :: x25 :: x26 :: some d :: ρ) 27 S) Q E = Q d S := nrfl rfl
theorem r28 {x0 x1 x2 x3 x4 x5 x6 x7 x8 x9 x10 x11 x12 x13 x14 x15 x16 x17 x18 x19 x20 x21 x22 x23 x24 x25 x26 x27 : Option D} : wp (rd (x0 :: x1 :: x2 :: x3 :: x4 :: x5 :: x6 :: x7 :: x8 :: x9 :: x10 :: x11 :: x12 :: x13 :: x14 :: x15 :: x16 :: x17 :: x18 :: x19 :: x20 :: x21 :: x22 :: x23 :: x24 :: x25 :: x26 :: x27 :: some d :: ρ) 28 S) Q E = Q d S := nrfl rfl
theorem r29 {x0 x1 x2 x3 x4 x5 x6 x7 x8 x9 x10 x11 x12 x13 x14 x15 x16 x17 x18 x19 x20 x21 x22 x23 x24 x25 x26 x27 x28 : Option D} : wp (rd (x0 :: x1 :: x2 :: x3 :: x4 :: x5 :: x6 :: x7 :: x8 :: x9 :: x10 :: x11 :: x12 :: x13 :: x14 :: x15 :: x16 :: x17 :: x18 :: x19 :: x20 :: x21 :: x22 :: x23 :: x24 :: x25 :: x26 :: x27 :: x28 :: some d :: ρ) 29 S) Q E = Q d S := nrfl rfl
theorem s0 {x0 y : Option D} : List.set (x0 :: ρ) 0 y = y :: ρ := nrfl rfl
theorem s1 {x0 x1 y : Option D} : List.set (x0 :: x1 :: ρ) 1 y = x0 :: y :: ρ := nrfl rfl
theorem s2 {x0 x1 x2 y : Option D} : List.set (x0 :: x1 :: x2 :: ρ) 2 y = x0 :: x1 :: y :: ρ := nrfl rfl
theorem s3 {x0 x1 x2 x3 y : Option D} : List.set (x0 :: x1 :: x2 :: x3 :: ρ) 3 y = x0 :: x1 :: x2 :: y :: ρ := nrfl rfl
theorem s4 {x0 x1 x2 x3 x4 y : Option D} : List.set (x0 :: x1 :: x2 :: x3 :: x4 :: ρ) 4 y = x0 :: x1 :: x2 :: x3 :: y :: ρ := nrfl rfl
theorem s5 {x0 x1 x2 x3 x4 x5 y : Option D} : List.set (x0 :: x1 :: x2 :: x3 :: x4 :: x5 :: ρ) 5 y = x0 :: x1 :: x2 :: x3 :: x4 :: y :: ρ := nrfl rfl
theorem s6 {x0 x1 x2 x3 x4 x5 x6 y : Option D} : List.set (x0 :: x1 :: x2 :: x3 :: x4 :: x5 :: x6 :: ρ) 6 y = x0 :: x1 :: x2 :: x3 :: x4 :: x5 :: y :: ρ := nrfl rfl
theorem s7 {x0 x1 x2 x3 x4 x5 x6 x7 y : Option D} : List.set (x0 :: x1 :: x2 :: x3 :: x4 :: x5 :: x6 :: x7 :: ρ) 7 y = x0 :: x1 :: x2 :: x3 :: x4 :: x5 :: x6 :: y :: ρ := nrfl rfl
theorem s8 {x0 x1 x2 x3 x4 x5 x6 x7 x8 y : Option D} : List.set (x0 :: x1 :: x2 :: x3 :: x4 :: x5 :: x6 :: x7 :: x8 :: ρ) 8 y = x0 :: x1 :: x2 :: x3 :: x4 :: x5 :: x6 :: x7 :: y :: ρ := nrfl rfl
theorem s9 {x0 x1 x2 x3 x4 x5 x6 x7 x8 x9 y : Option D} : List.set (x0 :: x1 :: x2 :: x3 :: x4 :: x5 :: x6 :: x7 :: x8 :: x9 :: ρ) 9 y = x0 :: x1 :: x2 :: x3 :: x4 :: x5 :: x6 :: x7 :: x8 :: y :: ρ := nrfl rfl
theorem s10 {x0 x1 x2 x3 x4 x5 x6 x7 x8 x9 x10 y : Option D} : List.set (x0 :: x1 :: x2 :: x3 :: x4 :: x5 :: x6 :: x7 :: x8 :: x9 :: x10 :: ρ) 10 y = x0 :: x1 :: x2 :: x3 :: x4 :: x5 :: x6 :: x7 :: x8 :: x9 :: y :: ρ := nrfl rfl
theorem s11 {x0 x1 x2 x3 x4 x5 x6 x7 x8 x9 x10 x11 y : Option D} : List.set (x0 :: x1 :: x2 :: x3 :: x4 :: x5 :: x6 :: x7 :: x8 :: x9 :: x10 :: x11 :: ρ) 11 y = x0 :: x1 :: x2 :: x3 :: x4 :: x5 :: x6 :: x7 :: x8 :: x9 :: x10 :: y :: ρ := nrfl rfl
theorem s12 {x0 x1 x2 x3 x4 x5 x6 x7 x8 x9 x10 x11 x12 y : Option D} : List.set (x0 :: x1 :: x2 :: x3 :: x4 :: x5 :: x6 :: x7 :: x8 :: x9 :: x10 :: x11 :: x12 :: ρ) 12 y = x0 :: x1 :: x2 :: x3 :: x4 :: x5 :: x6 :: x7 :: x8 :: x9 :: x10 :: x11 :: y :: ρ := nrfl rfl
theorem s13 {x0 x1 x2 x3 x4 x5 x6 x7 x8 x9 x10 x11 x12 x13 y : Option D} : List.set (x0 :: x1 :: x2 :: x3 :: x4 :: x5 :: x6 :: x7 :: x8 :: x9 :: x10 :: x11 :: x12 :: x13 :: ρ) 13 y = x0 :: x1 :: x2 :: x3 :: x4 :: x5 :: x6 :: x7 :: x8 :: x9 :: x10 :: x11 :: x12 :: y :: ρ := nrfl rfl
theorem s14 {x0 x1 x2 x3 x4 x5 x6 x7 x8 x9 x10 x11 x12 x13 x14 y : Option D} : List.set (x0 :: x1 :: x2 :: x3 :: x4 :: x5 :: x6 :: x7 :: x8 :: x9 :: x10 :: x11 :: x12 :: x13 :: x14 :: ρ) 14 y = x0 :: x1 :: x2 :: x3 :: x4 :: x5 :: x6 :: x7 :: x8 :: x9 :: x10 :: x11 :: x12 :: x13 :: y :: ρ := nrfl rfl
theorem s15 {x0 x1 x2 x3 x4 x5 x6 x7 x8 x9 x10 x11 x12 x13 x14 x15 y : Option D} : List.set (x0 :: x1 :: x2 :: x3 :: x4 :: x5 :: x6 :: x7 :: x8 :: x9 :: x10 :: x11 :: x12 :: x13 :: x14 :: x15 :: ρ) 15 y = x0 :: x1 :: x2 :: x3 :: x4 :: x5 :: x6 :: x7 :: x8 :: x9 :: x10 :: x11 :: x12 :: x13 :: x14 :: y :: ρ := nrfl rfl
theorem s16 {x0 x1 x2 x3 x4 x5 x6 x7 x8 x9 x10 x11 x12 x13 x14 x15 x16 y : Option D} : List.set (x0 :: x1 :: x2 :: x3 :: x4 :: x5 :: x6 :: x7 :: x8 :: x9 :: x10 :: x11 :: x12 :: x13 :: x14 :: x15 :: x16 :: ρ) 16 y = x0 :: x1 :: x2 :: x3 :: x4 :: x5 :: x6 :: x7 :: x8 :: x9 :: x10 :: x11 :: x12 :: x13 :: x14 :: x15 :: y :: ρ := nrfl rfl
theorem s17 {x0 x1 x2 x3 x4 x5 x6 x7 x8 x9 x10 x11 x12 x13 x14 x15 x16 x17 y : Option D} : List.set (x0 :: x1 :: x2 :: x3 :: x4 :: x5 :: x6 :: x7 :: x8 :: x9 :: x10 :: x11 :: x12 :: x13 :: x14 :: x15 :: x16 :: x17 :: ρ) 17 y = x0 :: x1 :: x2 :: x3 :: x4 :: x5 :: x6 :: x7 :: x8 :: x9 :: x10 :: x11 :: x12 :: x13 :: x14 :: x15 :: x16 :: y :: ρ := nrfl rfl
theorem s18 {x0 x1 x2 x3 x4 x5 x6 x7 x8 x9 x10 x11 x12 x13 x14 x15 x16 x17 x18 y : Option D} : List.set (x0 :: x1 :: x2 :: x3 :: x4 :: x5 :: x6 :: x7 :: x8 :: x9 :: x10 :: x11 :: x12 :: x13 :: x14 :: x15 :: x16 :: x17 :: x18 :: ρ) 18 y = x0 :: x1 :: x2 :: x3 :: x4 :: x5 :: x6 :: x7 :: x8 :: x9 :: x10 :: x11 :: x12 :: x13 :: x14 :: x15 :: x16 :: x17 :: y :: ρ := nrfl rfl
theorem s19 {x0 x1 x2 x3 x4 x5 x6 x7 x8 x9 x10 x11 x12 x13 x14 x15 x16 x17 x18 x19 y : Option D} : List.set (x0 :: x1 :: x2 :: x3 :: x4 :: x5 :: x6 :: x7 :: x8 :: x9 :: x10 :: x11 :: x12 :: x13 :: x14 :: x15 :: x16 :: x17 :: x18 :: x19 :: ρ) 19 y = x0 :: x1 :: x2 :: x3 :: x4 :: x5 :: x6 :: x7 :: x8 :: x9 :: x10 :: x11 :: x12 :: x13 :: x14 :: x15 :: x16 :: x17 :: x18 :: y :: ρ := nrfl rfl
theorem s20 {x0 x1 x2 x3 x4 x5 x6 x7 x8 x9 x10 x11 x12 x13 x14 x15 x16 x17 x18 x19 x20 y : Option D} : List.set (x0 :: x1 :: x2 :: x3 :: x4 :: x5 :: x6 :: x7 :: x8 :: x9 :: x10 :: x11 :: x12 :: x13 :: x14 :: x15 :: x16 :: x17 :: x18 :: x19 :: x20 :: ρ) 20 y = x0 :: x1 :: x2 :: x3 :: x4 :: x5 :: x6 :: x7 :: x8 :: x9 :: x10 :: x11 :: x12 :: x13 :: x14 :: x15 :: x16 :: x17 :: x18 :: x19 :: y :: ρ := nrfl rfl
theorem s21 {x0 x1 x2 x3 x4 x5 x6 x7 x8 x9 x10 x11 x12 x13 x14 x15 x16 x17 x18 x19 x20 x21 y : Option D} : List.set (x0 :: x1 :: x2 :: x3 :: x4 :: x5 :: x6 :: x7 :: x8 :: x9 :: x10 :: x11 :: x12 :: x13 :: x14 :: x15 :: x16 :: x17 :: x18 :: x19 :: x20 :: x21 :: ρ) 21 y = x0 :: x1 :: x2 :: x3 :: x4 :: x5 :: x6 :: x7 :: x8 :: x9 :: x10 :: x11 :: x12 :: x13 :: x14 :: x15 :: x16 :: x17 :: x18 :: x19 :: x20 :: y :: ρ := nrfl rfl
theorem s22 {x0 x1 x2 x3 x4 x5 x6 x7 x8 x9 x10 x11 x12 x13 x14 x15 x16 x17 x18 x19 x20 x21 x22 y : Option D} : List.set (x0 :: x1 :: x2 :: x3 :: x4 :: x5 :: x6 :: x7 :: x8 :: x9 :: x10 :: x11 :: x12 :: x13 :: x14 :: x15 :: x16 :: x17 :: x18 :: x19 :: x20 :: x21 :: x22 :: ρ) 22 y = x0 :: x1 :: x2 :: x3 :: x4 :: x5 :: x6 :: x7 :: x8 :: x9 :: x10 :: x11 :: x12 :: x13 :: x14 :: x15 :: x16 :: x17 :: x18 :: x19 :: x20 :: x21 :: y :: ρ := nrfl rfl
theorem s23 {x0 x1 x2 x3 x4 x5 x6 x7 x8 x9 x10 x11 x12 x13 x14 x15 x16 x17 x18 x19 x20 x21 x22 x23 y : Option D} : List.set (x0 :: x1 :: x2 :: x3 :: x4 :: x5 :: x6 :: x7 :: x8 :: x9 :: x10 :: x11 :: x12 :: x13 :: x14 :: x15 :: x16 :: x17 :: x18 :: x19 :: x20 :: x21 :: x22 :: x23 :: ρ) 23 y = x0 :: x1 :: x2 :: x3 :: x4 :: x5 :: x6 :: x7 :: x8 :: x9 :: x10 :: x11 :: x12 :: x13 :: x14 :: x15 :: x16 :: x17 :: x18 :: x19 :: x20 :: x21 :: x22 :: y :: ρ := nrfl rfl
theorem s24 {x0 x1 x2 x3 x4 x5 x6 x7 x8 x9 x10 x11 x12 x13 x14 x15 x16 x17 x18 x19 x20 x21 x22 x23 x24 y : Option D} : List.set (x0 :: x1 :: x2 :: x3 :: x4 :: x5 :: x6 :: x7 :: x8 :: x9 :: x10 :: x11 :: x12 :: x13 :: x14 :: x15 :: x16 :: x17 :: x18 :: x19 :: x20 :: x21 :: x22 :: x23 :: x24 :: ρ) 24 y = x0 :: x1 :: x2 :: x3 :: x4 :: x5 :: x6 :: x7 :: x8 :: x9 :: x10 :: x11 :: x12 :: x13 :: x14 :: x15 :: x16 :: x17 :: x18 :: x19 :: x20 :: x21 :: x22 :: x23 :: y :: ρ := nrfl rfl
theorem s25 {x0 x1 x2 x3 x4 x5 x6 x7 x8 x9 x10 x11 x12 x13 x14 x15 x16 x17 x18 x19 x20 x21 x22 x23 x24 x25 y : Option D} : List.set (x0 :: x1 :: x2 :: x3 :: x4 :: x5 :: x6 :: x7 :: x8 :: x9 :: x10 :: x11 :: x12 :: x13 :: x14 :: x15 :: x16 :: x17 :: x18 :: x19 :: x20 :: x21 :: x22 :: x23 :: x24 :: x25 :: ρ) 25 y = x0 :: x1 :: x2 :: x3 :: x4 :: x5 :: x6 :: x7 :: x8 :: x9 :: x10 :: x11 :: x12 :: x13 :: x14 :: x15 :: x16 :: x17 :: x18 :: x19 :: x20 :: x21 :: x22 :: x23 :: x24 :: y :: ρ := nrfl rfl
theorem s26 {x0 x1 x2 x3 x4 x5 x6 x7 x8 x9 x10 x11 x12 x13 x14 x15 x16 x17 x18 x19 x20 x21 x22 x23 x24 x25 x26 y : Option D} : List.set (x0 :: x1 :: x2 :: x3 :: x4 :: x5 :: x6 :: x7 :: x8 :: x9 :: x10 :: x11 :: x12 :: x13 :: x14 :: x15 :: x16 :: x17 :: x18 :: x19 :: x20 :: x21 :: x22 :: x23 :: x24 :: x25 :: x26 :: ρ) 26 y = x0 :: x1 :: x2 :: x3 :: x4 :: x5 :: x6 :: x7 :: x8 :: x9 :: x10 :: x11 :: x12 :: x13 :: x14 :: x15 :: x16 :: x17 :: x18 :: x19 :: x20 :: x21 :: x22 :: x23 :: x24 :: x25 :: y :: ρ := nrfl rfl
theorem s27 {x0 x1 x2 x3 x4 x5 x6 x7 x8 x9 x10 x11 x12 x13 x14 x15 x16 x17 x18 x19 x20 x21 x22 x23 x24 x25 x26 x27 y : Option D} : List.set (x0 :: x1 :: x2 :: x3 :: x4 :: x5 :: x6 :: x7 :: x8 :: x9 :: x10 :: x11 :: x12 :: x13 :: x14 :: x15 :: x16 :: x17 :: x18 :: x19 :: x20 :: x21 :: x22 :: x23 :: x24 :: x25 :: x26 :: x27 :: ρ) 27 y = x0 :: x1 :: x2 :: x3 :: x4 :: x5 :: x6 :: x7 :: x8 :: x9 :: x10 :: x11 :: x12 :: x13 :: x14 :: x15 :: x16 :: x17 :: x18 :: x19 :: x20 :: x21 :: x22 :: x23 :: x24 :: x25 :: x26 :: y :: ρ := nrfl rfl
theorem s28 {x0 x1 x2 x3 x4 x5 x6 x7 x8 x9 x10 x11 x12 x13 x14 x15 x16 x17 x18 x19 x20 x21 x22 x23 x24 x25 x26 x27 x28 y : Option D} : List.set (x0 :: x1 :: x2 :: x3 :: x4 :: x5 :: x6 :: x7 :: x8 :: x9 :: x10 :: x11 :: x12 :: x13 :: x14 :: x15 :: x16 :: x17 :: x18 :: x19 :: x20 :: x21 :: x22 :: x23 :: x24 :: x25 :: x26 :: x27 :: x28 :: ρ) 28 y = x0 :: x1 :: x2 :: x3 :: x4 :: x5 :: x6 :: x7 :: x8 :: x9 :: x10 :: x11 :: x12 :: x13 :: x14 :: x15 :: x16 :: x17 :: x18 :: x19 :: x20 :: x21 :: x22 :: x23 :: x24 :: x25 :: x26 :: x27 :: y :: ρ := nrfl rfl
theorem s29 {x0 x1 x2 x3 x4 x5 x6 x7 x8 x9 x10 x11 x12 x13 x14 x15 x16 x17 x18 x19 x20 x21 x22 x23 x24 x25 x26 x27 x28 x29 y : Option D} : List.set (x0 :: x1 :: x2 :: x3 :: x4 :: x5 :: x6 :: x7 :: x8 :: x9 :: x10 :: x11 :: x12 :: x13 :: x14 :: x15 :: x16 :: x17 :: x18 :: x19 :: x20 :: x21 :: x22 :: x23 :: x24 :: x25 :: x26 :: x27 :: x28 :: x29 :: ρ) 29 y = x0 :: x1 :: x2 :: x3 :: x4 :: x5 :: x6 :: x7 :: x8 :: x9 :: x10 :: x11 :: x12 :: x13 :: x14 :: x15 :: x16 :: x17 :: x18 :: x19 :: x20 :: x21 :: x22 :: x23 :: x24 :: x25 :: x26 :: x27 :: x28 :: y :: ρ := nrfl rfl
theorem startD_cons {n : Nat} {ds : List D} : startD (n + 1) (d :: ds) = some d :: startD n ds := by simp [startD]
theorem startD_nil {n : Nat} : startD (n + 1) [] = none :: startD n [] := by simp [startD, List.replicate_succ]
theorem startD_zero : startD 0 [] = [] := rfl
theorem a_nm {i : Nat} : wAsg (.nm i) ρ N d S = N (ρ.set i (some d)) S := nrfl rfl
theorem a_tp1 {i0 : Nat} {d0 : D} : wAsg (.tp [.nm i0]) ρ N (.tup [d0]) S = N (ρ.set i0 (some d0)) S := nrfl rfl
theorem a_tp2 {i0 i1 : Nat} {d0 d1 : D} : wAsg (.tp [.nm i0, .nm i1]) ρ N (.tup [d0, d1]) S = N ((ρ.set i0 (some d0)).set i1 (some d1)) S := nrfl rfl
theorem a_tp3 {i0 i1 i2 : Nat} {d0 d1 d2 : D} : wAsg (.tp [.nm i0, .nm i1, .nm i2]) ρ N (.tup [d0, d1, d2]) S = N (((ρ.set i0 (some d0)).set i1 (some d1)).set i2 (some d2)) S := nrfl rfl
theorem a_tp4 {i0 i1 i2 i3 : Nat} {d0 d1 d2 d3 : D} : wAsg (.tp [.nm i0, .nm i1, .nm i2, .nm i3]) ρ N (.tup [d0, d1, d2, d3]) S = N ((((ρ.set i0 (some d0)).set i1 (some d1)).set i2 (some d2)).set i3 (some d3)) S := nrfl rfl
theorem a_tp5 {i0 i1 i2 i3 i4 : Nat} {d0 d1 d2 d3 d4 : D} : wAsg (.tp [.nm i0, .nm i1, .nm i2, .nm i3, .nm i4]) ρ N (.tup [d0, d1, d2, d3, d4]) S = N (((((ρ.set i0 (some d0)).set i1 (some d1)).set i2 (some d2)).set i3 (some d3)).set i4 (some d4)) S := nrfl rfl
theorem a_tpn {i0 i1 i2 : Nat} {d0 d1 d2 : D} : wAsg (.tp [.nm i0, .tp [.nm i1, .nm i2]]) ρ N (.tup [d0, .tup [d1, d2]]) S = N (((ρ.set i0 (some d0)).set i1 (some d1)).set i2 (some d2)) S := nrfl rfl
theorem a_tpm {i0 i1 i2 : Nat} {d0 d1 d2 : D} : wAsg (.tp [.tp [.nm i1, .nm i2], .nm i0]) ρ N (.tup [.tup [d1, d2], d0]) S = N (((ρ.set i1 (some d1)).set i2 (some d2)).set i0 (some d0)) S := nrfl rfl
theorem a_encP {i0 i1 : Nat} {p : Int × Int} : wAsg (.tp [.nm i0, .nm i1]) ρ N (encP p) S = N ((ρ.set i0 (some (.int p.1))).set i1 (some (.int p.2))) S := nrfl rfl
theorem wipe_nil : wipeD ρ [] = ρ := nrfl rfl
theorem wipe_cons {v : Nat} {vs : List Nat} : wipeD ρ (v :: vs) = (wipeD ρ vs).set v none := rfl
theorem o_add : dAdd (.int i) (.int j) S = some (.int (i + j)) := nrfl rfl
theorem o_sub : dSub (.int i) (.int j) S = some (.int (i - j)) := nrfl rfl
theorem o_neg : dNeg (.int i) S = some (.int (-i)) := nrfl rfl
theorem o_ite {c : Prop} [Decidable c] {a : α} {Q : α → Cells → Prop} : wpo (if c then some a else none) S Q = (c ∧ Q a S) := by
  by_cases h : c
  · rw [if_pos h]; exact propext ⟨fun q => ⟨h, q⟩, fun q => q.2⟩
  · rw [if_neg h]; exact propext ⟨fun q => q.elim, fun q => absurd q.1 h⟩
theorem o_mul : wpo (dMul (.int i) (.int j) S) S' Q = (okMul i j = true ∧ Q (.int (i * j)) S') := o_ite
def okDiv (j : Int) : Prop := 0 < j ∧ j.natAbs.log2 < 9000
theorem okDiv_of {j : Int} (h : 0 < j) (h2 : j.natAbs < 2 ^ 8999) : okDiv j := ⟨h, Nat.lt_of_lt_of_le (PySem.Flt.log2_lt_of (by decide) h2) (by decide)⟩
theorem o_div : wpo (dDiv (.int i) (.int j) S) S' Q = (okDiv j ∧ Q (.int (i / j)) S') := o_ite
theorem o_mod : wpo (dMod (.int i) (.int j) S) S' Q = (0 < j ∧ Q (.int (i % j)) S') := o_ite
def okPow (i j : Int) : Prop := 0 ≤ j ∧ (Builtin.Int.intBits i : Int) * j ≤ 2 ^ 27
theorem o_pow : wpo (dPow (.int i) (.int j) S) S' Q = (okPow i j ∧ Q (.int (i ^ j.toNat)) S') := o_ite
theorem o_p10_3 : wpo (dPow (.int 10) (.int 3) S) S' Q = Q (.int 1000) S' := by rw [show dPow (.int 10) (.int 3) S = some (.int 1000) by kernel_rfl]; rfl
theorem o_p10_4 : wpo (dPow (.int 10) (.int 4) S) S' Q = Q (.int 10000) S' := by rw [show dPow (.int 10) (.int 4) S = some (.int 10000) by kernel_rfl]; rfl
theorem o_p10_6 : wpo (dPow (.int 10) (.int 6) S) S' Q = Q (.int 1000000) S' := by rw [show dPow (.int 10) (.int 6) S = some (.int 1000000) by kernel_rfl]; rfl
theorem o_p10_8 : wpo (dPow (.int 10) (.int 8) S) S' Q = Q (.int 100000000) S' := by rw [show dPow (.int 10) (.int 8) S = some (.int 100000000) by kernel_rfl]; rfl
theorem o_p10_9 : wpo (dPow (.int 10) (.int 9) S) S' Q = Q (.int 1000000000) S' := by rw [show dPow (.int 10) (.int 9) S = some (.int 1000000000) by kernel_rfl]; rfl
theorem o_p10_12 : wpo (dPow (.int 10) (.int 12) S) S' Q = Q (.int 1000000000000) S' := by rw [show dPow (.int 10) (.int 12) S = some (.int 1000000000000) by kernel_rfl]; rfl
theorem o_p10_15 : wpo (dPow (.int 10) (.int 15) S) S' Q = Q (.int 1000000000000000) S' := by rw [show dPow (.int 10) (.int 15) S = some (.int 1000000000000000) by kernel_rfl]; rfl
theorem o_p10_18 : wpo (dPow (.int 10) (.int 18) S) S' Q = Q (.int 1000000000000000000) S' := by rw [show dPow (.int 10) (.int 18) S = some (.int 1000000000000000000) by kernel_rfl]; rfl
theorem o_p10_20 : wpo (dPow (.int 10) (.int 20) S) S' Q = Q (.int 100000000000000000000) S' := by rw [show dPow (.int 10) (.int 20) S = some (.int 100000000000000000000) by kernel_rfl]; rfl
theorem o_p10_25 : wpo (dPow (.int 10) (.int 25) S) S' Q = Q (.int 10000000000000000000000000) S' := by rw [show dPow (.int 10) (.int 25) S = some (.int 10000000000000000000000000) by kernel_rfl]; rfl
theorem o_p10_26 : wpo (dPow (.int 10) (.int 26) S) S' Q = Q (.int 100000000000000000000000000) S' := by rw [show dPow (.int 10) (.int 26) S = some (.int 100000000000000000000000000) by kernel_rfl]; rfl
theorem o_p10_27 : wpo (dPow (.int 10) (.int 27) S) S' Q = Q (.int 1000000000000000000000000000) S' := by rw [show dPow (.int 10) (.int 27) S = some (.int 1000000000000000000000000000) by kernel_rfl]; rfl
theorem o_p10_28 : wpo (dPow (.int 10) (.int 28) S) S' Q = Q (.int 10000000000000000000000000000) S' := by rw [show dPow (.int 10) (.int 28) S = some (.int 10000000000000000000000000000) by kernel_rfl]; rfl
theorem o_p10_29 : wpo (dPow (.int 10) (.int 29) S) S' Q = Q (.int 100000000000000000000000000000) S' := by rw [show dPow (.int 10) (.int 29) S = some (.int 100000000000000000000000000000) by kernel_rfl]; rfl
theorem o_p10_30 : wpo (dPow (.int 10) (.int 30) S) S' Q = Q (.int 1000000000000000000000000000000) S' := by rw [show dPow (.int 10) (.int 30) S = some (.int 1000000000000000000000000000000) by kernel_rfl]; rfl
theorem o_p10_31 : wpo (dPow (.int 10) (.int 31) S) S' Q = Q (.int 10000000000000000000000000000000) S' := by rw [show dPow (.int 10) (.int 31) S = some (.int 10000000000000000000000000000000) by kernel_rfl]; rfl
theorem o_p10_36 : wpo (dPow (.int 10) (.int 36) S) S' Q = Q (.int 1000000000000000000000000000000000000) S' := by rw [show dPow (.int 10) (.int 36) S = some (.int 1000000000000000000000000000000000000) by kernel_rfl]; rfl
theorem o_p10_38 : wpo (dPow (.int 10) (.int 38) S) S' Q = Q (.int 100000000000000000000000000000000000000) S' := by rw [show dPow (.int 10) (.int 38) S = some (.int 100000000000000000000000000000000000000) by kernel_rfl]; rfl
theorem o_p10_40 : wpo (dPow (.int 10) (.int 40) S) S' Q = Q (.int 10000000000000000000000000000000000000000) S' := by rw [show dPow (.int 10) (.int 40) S = some (.int 10000000000000000000000000000000000000000) by kernel_rfl]; rfl
theorem o_p10_42 : wpo (dPow (.int 10) (.int 42) S) S' Q = Q (.int 1000000000000000000000000000000000000000000) S' := by rw [show dPow (.int 10) (.int 42) S = some (.int 1000000000000000000000000000000000000000000) by kernel_rfl]; rfl
theorem o_p10_44 : wpo (dPow (.int 10) (.int 44) S) S' Q = Q (.int 100000000000000000000000000000000000000000000) S' := by rw [show dPow (.int 10) (.int 44) S = some (.int 100000000000000000000000000000000000000000000) by kernel_rfl]; rfl
theorem o_p10_46 : wpo (dPow (.int 10) (.int 46) S) S' Q = Q (.int 10000000000000000000000000000000000000000000000) S' := by rw [show dPow (.int 10) (.int 46) S = some (.int 10000000000000000000000000000000000000000000000) by kernel_rfl]; rfl
theorem o_p10_48 : wpo (dPow (.int 10) (.int 48) S) S' Q = Q (.int 1000000000000000000000000000000000000000000000000) S' := by rw [show dPow (.int 10) (.int 48) S = some (.int 1000000000000000000000000000000000000000000000000) by kernel_rfl]; rfl
theorem o_p10_50 : wpo (dPow (.int 10) (.int 50) S) S' Q = Q (.int 100000000000000000000000000000000000000000000000000) S' := by rw [show dPow (.int 10) (.int 50) S = some (.int 100000000000000000000000000000000000000000000000000) by kernel_rfl]; rfl
theorem o_p10_60 : wpo (dPow (.int 10) (.int 60) S) S' Q = Q (.int 1000000000000000000000000000000000000000000000000000000000000) S' := by rw [show dPow (.int 10) (.int 60) S = some (.int 1000000000000000000000000000000000000000000000000000000000000) by kernel_rfl]; rfl
theorem o_p10_64 : wpo (dPow (.int 10) (.int 64) S) S' Q = Q (.int 10000000000000000000000000000000000000000000000000000000000000000) S' := by rw [show dPow (.int 10) (.int 64) S = some (.int 10000000000000000000000000000000000000000000000000000000000000000) by kernel_rfl]; rfl
theorem o_p10_70 : wpo (dPow (.int 10) (.int 70) S) S' Q = Q (.int 10000000000000000000000000000000000000000000000000000000000000000000000) S' := by rw [show dPow (.int 10) (.int 70) S = some (.int 10000000000000000000000000000000000000000000000000000000000000000000000) by kernel_rfl]; rfl
theorem o_p10_90 : wpo (dPow (.int 10) (.int 90) S) S' Q = Q (.int 1000000000000000000000000000000000000000000000000000000000000000000000000000000000000000000) S' := by rw [show dPow (.int 10) (.int 90) S = some (.int 1000000000000000000000000000000000000000000000000000000000000000000000000000000000000000000) by kernel_rfl]; rfl
theorem o_p10_99 : wpo (dPow (.int 10) (.int 99) S) S' Q = Q (.int 1000000000000000000000000000000000000000000000000000000000000000000000000000000000000000000000000000) S' := by rw [show dPow (.int 10) (.int 99) S = some (.int 1000000000000000000000000000000000000000000000000000000000000000000000000000000000000000000000000000) by kernel_rfl]; rfl
theorem o_p10_100 : wpo (dPow (.int 10) (.int 100) S) S' Q = Q (.int 10000000000000000000000000000000000000000000000000000000000000000000000000000000000000000000000000000) S' := by rw [show dPow (.int 10) (.int 100) S = some (.int 10000000000000000000000000000000000000000000000000000000000000000000000000000000000000000000000000000) by kernel_rfl]; rfl
theorem o_addS : wpo (dAdd (.str x) (.str y) S) S' Q = (x.length + y.length ≤ sizeLine ∧ Q (.str (x ++ y)) S') := o_ite
theorem o_addT : wpo (dAdd (.tup l) (.tup m) S) S' Q = (l.length + m.length ≤ sizeLine ∧ Q (.tup (l ++ m)) S') := o_ite
theorem o_catL : wpo (catL (.lst l) (.lst m) S) S' QL = (l.length + m.length ≤ sizeLine ∧ QL (l ++ m) S') := o_ite
theorem o_addL : wpo (dAdd (.lst l) (.lst m) S) S' Q = (l.length + m.length ≤ sizeLine ∧ Q (.lst (l ++ m)) S') := by
  show wpo ((catL (.lst l) (.lst m) S).map .lst) S' Q = _
  show wpo ((if l.length + m.length ≤ sizeLine then some (l ++ m) else none).map .lst) S' Q = _
  by_cases h : l.length + m.length ≤ sizeLine
  · rw [if_pos h]; exact propext ⟨fun q => ⟨h, q⟩, fun q => q.2⟩
  · rw [if_neg h]; exact propext ⟨fun q => q.elim, fun q => absurd q.1 h⟩
theorem o_lt : dLt (.int i) (.int j) S = some (.bl (decide (i < j))) := nrfl rfl
theorem o_le : dLe (.int i) (.int j) S = some (.bl (decide (i ≤ j))) := nrfl rfl
theorem o_gt : dGt (.int i) (.int j) S = some (.bl (decide (j < i))) := nrfl rfl
theorem o_ge : dGe (.int i) (.int j) S = some (.bl (decide (j ≤ i))) := nrfl rfl
theorem o_eqI : dEq (.int i) (.int j) S = some (.bl (decide (i = j))) := dEq_int
theorem o_neI : dNe (.int i) (.int j) S = some (.bl (!decide (i = j))) := dNe_int
theorem o_eqS : dEq (.str x) (.str y) S = some (.bl (decide (x = y))) := nrfl rfl
theorem o_neS : dNe (.str x) (.str y) S = some (.bl (!decide (x = y))) := nrfl rfl
theorem o_is : dIs d .non S = some (.bl (isNon d)) := nrfl rfl
theorem o_isn : dIsNot d .non S = some (.bl (!isNon d)) := nrfl rfl
theorem n_non : isNon .non = true := nrfl rfl
theorem n_bl {b : Bool} : isNon (.bl b) = false := nrfl rfl
theorem n_int : isNon (.int i) = false := nrfl rfl
theorem n_str : isNon (.str x) = false := nrfl rfl
theorem n_lst : isNon (.lst l) = false := nrfl rfl
theorem n_tup : isNon (.tup l) = false := nrfl rfl
theorem n_ref {n : Nat} : isNon (.ref n) = false := nrfl rfl
theorem n_obj {n : Nat} : isNon (.obj n l) = false := nrfl rfl
theorem i_non_int : isiD tabInt .non S = some (.bl false) := nrfl rfl
theorem i_non_bool : isiD (tabIs "bool") .non S = some (.bl false) := nrfl rfl
theorem i_non_str : isiD (tabIs "str") .non S = some (.bl false) := nrfl rfl
theorem i_non_list : isiD (tabIs "list") .non S = some (.bl false) := nrfl rfl
theorem i_non_tuple : isiD (tabIs "tuple") .non S = some (.bl false) := nrfl rfl
theorem i_bl_int {b : Bool} : isiD tabInt (.bl b) S = some (.bl true) := nrfl rfl
theorem i_bl_bool {b : Bool} : isiD (tabIs "bool") (.bl b) S = some (.bl true) := nrfl rfl
theorem i_bl_str {b : Bool} : isiD (tabIs "str") (.bl b) S = some (.bl false) := nrfl rfl
theorem i_bl_list {b : Bool} : isiD (tabIs "list") (.bl b) S = some (.bl false) := nrfl rfl
theorem i_bl_tuple {b : Bool} : isiD (tabIs "tuple") (.bl b) S = some (.bl false) := nrfl rfl
theorem i_int_int : isiD tabInt (.int i) S = some (.bl true) := nrfl rfl
theorem i_int_bool : isiD (tabIs "bool") (.int i) S = some (.bl false) := nrfl rfl
theorem i_int_str : isiD (tabIs "str") (.int i) S = some (.bl false) := nrfl rfl
theorem i_int_list : isiD (tabIs "list") (.int i) S = some (.bl false) := nrfl rfl
theorem i_int_tuple : isiD (tabIs "tuple") (.int i) S = some (.bl false) := nrfl rfl
theorem i_str_int : isiD tabInt (.str x) S = some (.bl false) := nrfl rfl
theorem i_str_bool : isiD (tabIs "bool") (.str x) S = some (.bl false) := nrfl rfl
theorem i_str_str : isiD (tabIs "str") (.str x) S = some (.bl true) := nrfl rfl
theorem i_str_list : isiD (tabIs "list") (.str x) S = some (.bl false) := nrfl rfl
theorem i_str_tuple : isiD (tabIs "tuple") (.str x) S = some (.bl false) := nrfl rfl
theorem i_lst_int : isiD tabInt (.lst l) S = some (.bl false) := nrfl rfl
theorem i_lst_bool : isiD (tabIs "bool") (.lst l) S = some (.bl false) := nrfl rfl
theorem i_lst_str : isiD (tabIs "str") (.lst l) S = some (.bl false) := nrfl rfl
theorem i_lst_list : isiD (tabIs "list") (.lst l) S = some (.bl true) := nrfl rfl
theorem i_lst_tuple : isiD (tabIs "tuple") (.lst l) S = some (.bl false) := nrfl rfl
theorem i_tup_int : isiD tabInt (.tup l) S = some (.bl false) := nrfl rfl
theorem i_tup_bool : isiD (tabIs "bool") (.tup l) S = some (.bl false) := nrfl rfl
theorem i_tup_str : isiD (tabIs "str") (.tup l) S = some (.bl false) := nrfl rfl
theorem i_tup_list : isiD (tabIs "list") (.tup l) S = some (.bl false) := nrfl rfl
theorem i_tup_tuple : isiD (tabIs "tuple") (.tup l) S = some (.bl true) := nrfl rfl
theorem t_non : truD .non S = some false := nrfl rfl
theorem t_bl {b : Bool} : truD (.bl b) S = some b := nrfl rfl
theorem t_int : truD (.int i) S = some (!decide (i = 0)) := by
  show some (i != 0) = some (!decide (i = 0))
  have : (i != 0) = !decide (i = 0) := by rw [Bool.eq_iff_iff]; simp
  rw [this]
theorem t_lst : truD (.lst l) S = some (!l.isEmpty) := nrfl rfl
theorem t_tup : truD (.tup l) S = some (!l.isEmpty) := nrfl rfl
def wAt (l : List D) (k : Int) (S : Cells) (Q : D → Cells → Prop) : Prop := ∃ d, atI l k = some d ∧ Q d S
theorem wAt_of {o : Option D} : wpo o S Q = ∃ d, o = some d ∧ Q d S := by
  cases o with
  | none => exact propext ⟨fun q => q.elim, fun ⟨_, e, _⟩ => nomatch e⟩
  | some a => exact propext ⟨fun q => ⟨a, rfl, q⟩, fun ⟨_, e, q⟩ => by cases e; exact q⟩
theorem x_lst : wpo (ixD (.lst l) (.int k) S) S' Q = wAt l k S' Q := wAt_of
theorem x_tup : wpo (ixD (.tup l) (.int k) S) S' Q = wAt l k S' Q := wAt_of
theorem x_encP0 {p : Int × Int} : wpo (ixD (encP p) (.int 0) S) S' Q = Q (.int p.1) S' := nrfl rfl
theorem x_encP1 {p : Int × Int} : wpo (ixD (encP p) (.int 1) S) S' Q = Q (.int p.2) S' := nrfl rfl
theorem wAt_some {k : Int} (h : atI l k = some d) : wAt l k S Q = Q d S := propext ⟨fun ⟨_, e, q⟩ => by rw [h] at e; cases e; exact q, fun q => ⟨d, h, q⟩⟩
theorem wAt_nat {n : Nat} (h : l[n]? = some d) (q : Q d S) : wAt l (n : Int) S Q := ⟨d, atI_nat h, q⟩
theorem wAt_i {k : Int} (h0 : 0 ≤ k) (h : l[k.toNat]? = some d) (q : Q d S) : wAt l k S Q := by
  have e : k = (k.toNat : Int) := by omega
  rw [e]
  exact wAt_nat h q
theorem ixn1_0 : ixN 1 0 = some 0 := nrfl rfl
theorem ixn1_m1 : ixN 1 (-1) = some 0 := nrfl rfl
theorem ixn2_0 : ixN 2 0 = some 0 := nrfl rfl
theorem ixn2_1 : ixN 2 1 = some 1 := nrfl rfl
theorem ixn2_m1 : ixN 2 (-1) = some 1 := nrfl rfl
theorem ixn3_0 : ixN 3 0 = some 0 := nrfl rfl
theorem ixn3_1 : ixN 3 1 = some 1 := nrfl rfl
theorem ixn3_2 : ixN 3 2 = some 2 := nrfl rfl
theorem ixn3_m1 : ixN 3 (-1) = some 2 := nrfl rfl
theorem ixn4_0 : ixN 4 0 = some 0 := nrfl rfl
theorem ixn4_1 : ixN 4 1 = some 1 := nrfl rfl
theorem ixn4_2 : ixN 4 2 = some 2 := nrfl rfl
theorem ixn4_3 : ixN 4 3 = some 3 := nrfl rfl
theorem ixn4_m1 : ixN 4 (-1) = some 3 := nrfl rfl
theorem ixn5_0 : ixN 5 0 = some 0 := nrfl rfl
theorem ixn5_1 : ixN 5 1 = some 1 := nrfl rfl
theorem ixn5_2 : ixN 5 2 = some 2 := nrfl rfl
theorem ixn5_3 : ixN 5 3 = some 3 := nrfl rfl
theorem ixn5_4 : ixN 5 4 = some 4 := nrfl rfl
theorem ixn5_m1 : ixN 5 (-1) = some 4 := nrfl rfl
theorem ixn6_0 : ixN 6 0 = some 0 := nrfl rfl
theorem ixn6_1 : ixN 6 1 = some 1 := nrfl rfl
theorem ixn6_2 : ixN 6 2 = some 2 := nrfl rfl
theorem ixn6_3 : ixN 6 3 = some 3 := nrfl rfl
theorem ixn6_4 : ixN 6 4 = some 4 := nrfl rfl
theorem ixn6_5 : ixN 6 5 = some 5 := nrfl rfl
theorem ixn6_m1 : ixN 6 (-1) = some 5 := nrfl rfl
theorem ixn7_0 : ixN 7 0 = some 0 := nrfl rfl
theorem ixn7_1 : ixN 7 1 = some 1 := nrfl rfl
theorem ixn7_2 : ixN 7 2 = some 2 := nrfl rfl
theorem ixn7_3 : ixN 7 3 = some 3 := nrfl rfl
theorem ixn7_4 : ixN 7 4 = some 4 := nrfl rfl
theorem ixn7_5 : ixN 7 5 = some 5 := nrfl rfl
theorem ixn7_6 : ixN 7 6 = some 6 := nrfl rfl
theorem ixn7_m1 : ixN 7 (-1) = some 6 := nrfl rfl
theorem ixn8_0 : ixN 8 0 = some 0 := nrfl rfl
theorem ixn8_1 : ixN 8 1 = some 1 := nrfl rfl
theorem ixn8_2 : ixN 8 2 = some 2 := nrfl rfl
theorem ixn8_3 : ixN 8 3 = some 3 := nrfl rfl
theorem ixn8_4 : ixN 8 4 = some 4 := nrfl rfl
theorem ixn8_5 : ixN 8 5 = some 5 := nrfl rfl
theorem ixn8_6 : ixN 8 6 = some 6 := nrfl rfl
theorem ixn8_7 : ixN 8 7 = some 7 := nrfl rfl
theorem ixn8_m1 : ixN 8 (-1) = some 7 := nrfl rfl
theorem x1_0 {d0 : D} : wAt [d0] 0 S Q = Q d0 S := wAt_some rfl
theorem x1_m1 {d0 : D} : wAt [d0] (-1) S Q = Q d0 S := wAt_some rfl
theorem x2_0 {d0 d1 : D} : wAt [d0, d1] 0 S Q = Q d0 S := wAt_some rfl
theorem x2_1 {d0 d1 : D} : wAt [d0, d1] 1 S Q = Q d1 S := wAt_some rfl
theorem x2_m1 {d0 d1 : D} : wAt [d0, d1] (-1) S Q = Q d1 S := wAt_some rfl
theorem at_2 {d0 d1 : D} (h0' : 0 ≤ k) (h1' : k < 2) (h0 : k = 0 → Q d0 S) (h1 : k = 1 → Q d1 S) : wAt [d0, d1] k S Q := by
  have e : k = (k.toNat : Int) := by omega
  unfold wAt
  rw [e]
  match q : k.toNat with
  | 0 => exact ⟨_, rfl, h0 (by omega)⟩
  | 1 => exact ⟨_, rfl, h1 (by omega)⟩
  | n + 2 => exfalso; omega
theorem x3_0 {d0 d1 d2 : D} : wAt [d0, d1, d2] 0 S Q = Q d0 S := wAt_some rfl
theorem x3_1 {d0 d1 d2 : D} : wAt [d0, d1, d2] 1 S Q = Q d1 S := wAt_some rfl
theorem x3_2 {d0 d1 d2 : D} : wAt [d0, d1, d2] 2 S Q = Q d2 S := wAt_some rfl
theorem x3_m1 {d0 d1 d2 : D} : wAt [d0, d1, d2] (-1) S Q = Q d2 S := wAt_some rfl
theorem at_3 {d0 d1 d2 : D} (h0' : 0 ≤ k) (h1' : k < 3) (h0 : k = 0 → Q d0 S) (h1 : k = 1 → Q d1 S) (h2 : k = 2 → Q d2 S) : wAt [d0, d1, d2] k S Q := by
  have e : k = (k.toNat : Int) := by omega
  unfold wAt
  rw [e]
  match q : k.toNat with
  | 0 => exact ⟨_, rfl, h0 (by omega)⟩
  | 1 => exact ⟨_, rfl, h1 (by omega)⟩
  | 2 => exact ⟨_, rfl, h2 (by omega)⟩
  | n + 3 => exfalso; omega
theorem x4_0 {d0 d1 d2 d3 : D} : wAt [d0, d1, d2, d3] 0 S Q = Q d0 S := wAt_some rfl
theorem x4_1 {d0 d1 d2 d3 : D} : wAt [d0, d1, d2, d3] 1 S Q = Q d1 S := wAt_some rfl
theorem x4_2 {d0 d1 d2 d3 : D} : wAt [d0, d1, d2, d3] 2 S Q = Q d2 S := wAt_some rfl
theorem x4_3 {d0 d1 d2 d3 : D} : wAt [d0, d1, d2, d3] 3 S Q = Q d3 S := wAt_some rfl
theorem x4_m1 {d0 d1 d2 d3 : D} : wAt [d0, d1, d2, d3] (-1) S Q = Q d3 S := wAt_some rfl
theorem at_4 {d0 d1 d2 d3 : D} (h0' : 0 ≤ k) (h1' : k < 4) (h0 : k = 0 → Q d0 S) (h1 : k = 1 → Q d1 S) (h2 : k = 2 → Q d2 S) (h3 : k = 3 → Q d3 S) : wAt [d0, d1, d2, d3] k S Q := by
  have e : k = (k.toNat : Int) := by omega
  unfold wAt
  rw [e]
  match q : k.toNat with
  | 0 => exact ⟨_, rfl, h0 (by omega)⟩
  | 1 => exact ⟨_, rfl, h1 (by omega)⟩
  | 2 => exact ⟨_, rfl, h2 (by omega)⟩
  | 3 => exact ⟨_, rfl, h3 (by omega)⟩
  | n + 4 => exfalso; omega
theorem x5_0 {d0 d1 d2 d3 d4 : D} : wAt [d0, d1, d2, d3, d4] 0 S Q = Q d0 S := wAt_some rfl
theorem x5_1 {d0 d1 d2 d3 d4 : D} : wAt [d0, d1, d2, d3, d4] 1 S Q = Q d1 S := wAt_some rfl
theorem x5_2 {d0 d1 d2 d3 d4 : D} : wAt [d0, d1, d2, d3, d4] 2 S Q = Q d2 S := wAt_some rfl
theorem x5_3 {d0 d1 d2 d3 d4 : D} : wAt [d0, d1, d2, d3, d4] 3 S Q = Q d3 S := wAt_some rfl
theorem x5_4 {d0 d1 d2 d3 d4 : D} : wAt [d0, d1, d2, d3, d4] 4 S Q = Q d4 S := wAt_some rfl
theorem x5_m1 {d0 d1 d2 d3 d4 : D} : wAt [d0, d1, d2, d3, d4] (-1) S Q = Q d4 S := wAt_some rfl
theorem at_5 {d0 d1 d2 d3 d4 : D} (h0' : 0 ≤ k) (h1' : k < 5) (h0 : k = 0 → Q d0 S) (h1 : k = 1 → Q d1 S) (h2 : k = 2 → Q d2 S) (h3 : k = 3 → Q d3 S) (h4 : k = 4 → Q d4 S) : wAt [d0, d1, d2, d3, d4] k S Q := by
  have e : k = (k.toNat : Int) := by omega
  unfold wAt
  rw [e]
  match q : k.toNat with
  | 0 => exact ⟨_, rfl, h0 (by omega)⟩
  | 1 => exact ⟨_, rfl, h1 (by omega)⟩
  | 2 => exact ⟨_, rfl, h2 (by omega)⟩
  | 3 => exact ⟨_, rfl, h3 (by omega)⟩
  | 4 => exact ⟨_, rfl, h4 (by omega)⟩
  | n + 5 => exfalso; omega
theorem x6_0 {d0 d1 d2 d3 d4 d5 : D} : wAt [d0, d1, d2, d3, d4, d5] 0 S Q = Q d0 S := wAt_some rfl
theorem x6_1 {d0 d1 d2 d3 d4 d5 : D} : wAt [d0, d1, d2, d3, d4, d5] 1 S Q = Q d1 S := wAt_some rfl
theorem x6_2 {d0 d1 d2 d3 d4 d5 : D} : wAt [d0, d1, d2, d3, d4, d5] 2 S Q = Q d2 S := wAt_some rfl
theorem x6_3 {d0 d1 d2 d3 d4 d5 : D} : wAt [d0, d1, d2, d3, d4, d5] 3 S Q = Q d3 S := wAt_some rfl
theorem x6_4 {d0 d1 d2 d3 d4 d5 : D} : wAt [d0, d1, d2, d3, d4, d5] 4 S Q = Q d4 S := wAt_some rfl
theorem x6_5 {d0 d1 d2 d3 d4 d5 : D} : wAt [d0, d1, d2, d3, d4, d5] 5 S Q = Q d5 S := wAt_some rfl
theorem x6_m1 {d0 d1 d2 d3 d4 d5 : D} : wAt [d0, d1, d2, d3, d4, d5] (-1) S Q = Q d5 S := wAt_some rfl
theorem at_6 {d0 d1 d2 d3 d4 d5 : D} (h0' : 0 ≤ k) (h1' : k < 6) (h0 : k = 0 → Q d0 S) (h1 : k = 1 → Q d1 S) (h2 : k = 2 → Q d2 S) (h3 : k = 3 → Q d3 S) (h4 : k = 4 → Q d4 S) (h5 : k = 5 → Q d5 S) : wAt [d0, d1, d2, d3, d4, d5] k S Q := by
  have e : k = (k.toNat : Int) := by omega
  unfold wAt
  rw [e]
  match q : k.toNat with
  | 0 => exact ⟨_, rfl, h0 (by omega)⟩
  | 1 => exact ⟨_, rfl, h1 (by omega)⟩
  | 2 => exact ⟨_, rfl, h2 (by omega)⟩
  | 3 => exact ⟨_, rfl, h3 (by omega)⟩
  | 4 => exact ⟨_, rfl, h4 (by omega)⟩
  | 5 => exact ⟨_, rfl, h5 (by omega)⟩
  | n + 6 => exfalso; omega
theorem x7_0 {d0 d1 d2 d3 d4 d5 d6 : D} : wAt [d0, d1, d2, d3, d4, d5, d6] 0 S Q = Q d0 S := wAt_some rfl
theorem x7_1 {d0 d1 d2 d3 d4 d5 d6 : D} : wAt [d0, d1, d2, d3, d4, d5, d6] 1 S Q = Q d1 S := wAt_some rfl
theorem x7_2 {d0 d1 d2 d3 d4 d5 d6 : D} : wAt [d0, d1, d2, d3, d4, d5, d6] 2 S Q = Q d2 S := wAt_some rfl
theorem x7_3 {d0 d1 d2 d3 d4 d5 d6 : D} : wAt [d0, d1, d2, d3, d4, d5, d6] 3 S Q = Q d3 S := wAt_some rfl
theorem x7_4 {d0 d1 d2 d3 d4 d5 d6 : D} : wAt [d0, d1, d2, d3, d4, d5, d6] 4 S Q = Q d4 S := wAt_some rfl
theorem x7_5 {d0 d1 d2 d3 d4 d5 d6 : D} : wAt [d0, d1, d2, d3, d4, d5, d6] 5 S Q = Q d5 S := wAt_some rfl
theorem x7_6 {d0 d1 d2 d3 d4 d5 d6 : D} : wAt [d0, d1, d2, d3, d4, d5, d6] 6 S Q = Q d6 S := wAt_some rfl
theorem x7_m1 {d0 d1 d2 d3 d4 d5 d6 : D} : wAt [d0, d1, d2, d3, d4, d5, d6] (-1) S Q = Q d6 S := wAt_some rfl
theorem at_7 {d0 d1 d2 d3 d4 d5 d6 : D} (h0' : 0 ≤ k) (h1' : k < 7) (h0 : k = 0 → Q d0 S) (h1 : k = 1 → Q d1 S) (h2 : k = 2 → Q d2 S) (h3 : k = 3 → Q d3 S) (h4 : k = 4 → Q d4 S) (h5 : k = 5 → Q d5 S) (h6 : k = 6 → Q d6 S) : wAt [d0, d1, d2, d3, d4, d5, d6] k S Q := by
  have e : k = (k.toNat : Int) := by omega
  unfold wAt
  rw [e]
  match q : k.toNat with
  | 0 => exact ⟨_, rfl, h0 (by omega)⟩
  | 1 => exact ⟨_, rfl, h1 (by omega)⟩
  | 2 => exact ⟨_, rfl, h2 (by omega)⟩
  | 3 => exact ⟨_, rfl, h3 (by omega)⟩
  | 4 => exact ⟨_, rfl, h4 (by omega)⟩
  | 5 => exact ⟨_, rfl, h5 (by omega)⟩
  | 6 => exact ⟨_, rfl, h6 (by omega)⟩
  | n + 7 => exfalso; omega
theorem x8_0 {d0 d1 d2 d3 d4 d5 d6 d7 : D} : wAt [d0, d1, d2, d3, d4, d5, d6, d7] 0 S Q = Q d0 S := wAt_some rfl
theorem x8_1 {d0 d1 d2 d3 d4 d5 d6 d7 : D} : wAt [d0, d1, d2, d3, d4, d5, d6, d7] 1 S Q = Q d1 S := wAt_some rfl
theorem x8_2 {d0 d1 d2 d3 d4 d5 d6 d7 : D} : wAt [d0, d1, d2, d3, d4, d5, d6, d7] 2 S Q = Q d2 S := wAt_some rfl
theorem x8_3 {d0 d1 d2 d3 d4 d5 d6 d7 : D} : wAt [d0, d1, d2, d3, d4, d5, d6, d7] 3 S Q = Q d3 S := wAt_some rfl
theorem x8_4 {d0 d1 d2 d3 d4 d5 d6 d7 : D} : wAt [d0, d1, d2, d3, d4, d5, d6, d7] 4 S Q = Q d4 S := wAt_some rfl
theorem x8_5 {d0 d1 d2 d3 d4 d5 d6 d7 : D} : wAt [d0, d1, d2, d3, d4, d5, d6, d7] 5 S Q = Q d5 S := wAt_some rfl
theorem x8_6 {d0 d1 d2 d3 d4 d5 d6 d7 : D} : wAt [d0, d1, d2, d3, d4, d5, d6, d7] 6 S Q = Q d6 S := wAt_some rfl
theorem x8_7 {d0 d1 d2 d3 d4 d5 d6 d7 : D} : wAt [d0, d1, d2, d3, d4, d5, d6, d7] 7 S Q = Q d7 S := wAt_some rfl
theorem x8_m1 {d0 d1 d2 d3 d4 d5 d6 d7 : D} : wAt [d0, d1, d2, d3, d4, d5, d6, d7] (-1) S Q = Q d7 S := wAt_some rfl
theorem at_8 {d0 d1 d2 d3 d4 d5 d6 d7 : D} (h0' : 0 ≤ k) (h1' : k < 8) (h0 : k = 0 → Q d0 S) (h1 : k = 1 → Q d1 S) (h2 : k = 2 → Q d2 S) (h3 : k = 3 → Q d3 S) (h4 : k = 4 → Q d4 S) (h5 : k = 5 → Q d5 S) (h6 : k = 6 → Q d6 S) (h7 : k = 7 → Q d7 S) : wAt [d0, d1, d2, d3, d4, d5, d6, d7] k S Q := by
  have e : k = (k.toNat : Int) := by omega
  unfold wAt
  rw [e]
  match q : k.toNat with
  | 0 => exact ⟨_, rfl, h0 (by omega)⟩
  | 1 => exact ⟨_, rfl, h1 (by omega)⟩
  | 2 => exact ⟨_, rfl, h2 (by omega)⟩
  | 3 => exact ⟨_, rfl, h3 (by omega)⟩
  | 4 => exact ⟨_, rfl, h4 (by omega)⟩
  | 5 => exact ⟨_, rfl, h5 (by omega)⟩
  | 6 => exact ⟨_, rfl, h6 (by omega)⟩
  | 7 => exact ⟨_, rfl, h7 (by omega)⟩
  | n + 8 => exfalso; omega
theorem c_abs : dAbs [.int i] S = some (.int (if i < 0 then -i else i)) := nrfl rfl
theorem c_max2 : dMax2 [.int i, .int j] S = some (.int (if j > i then j else i)) := nrfl rfl
theorem c_min2 : dMin2 [.int i, .int j] S = some (.int (if j < i then j else i)) := nrfl rfl
theorem c_int : dInt [.int i] S = some (.int i) := nrfl rfl
theorem c_intb {b : Bool} : dInt [.bl b] S = some (.int (if b then 1 else 0)) := nrfl rfl
theorem c_lenS : dLen [.str x] S = some (.int x.length) := nrfl rfl
theorem c_lenT : dLen [.tup l] S = some (.int l.length) := nrfl rfl
theorem c_lenL : dLen [.lst l] S = some (.int l.length) := nrfl rfl
theorem c_listT : dListOf [.tup l] S = some l := nrfl rfl
theorem c_listL : dListOf [.lst l] S = some l := nrfl rfl
theorem c_tupT : dTupleOf [.tup l] S = some (.tup l) := nrfl rfl
theorem c_tupL : dTupleOf [.lst l] S = some (.tup l) := nrfl rfl
theorem c_sum {γ : Type} {f : γ → Int} {l : List γ} : dSum [.lst (l.map fun x => D.int (f x))] S = some (.int (l.map f).sum) := by
  have e : (l.map fun x => D.int (f x)) = (l.map f).map .int := by rw [List.map_map]; rfl
  rw [e]
  exact sum_ints _
theorem c_sum0 : dSum [.lst []] S = some (.int 0) := nrfl rfl
theorem blsM {γ : Type} {f : γ → Bool} {l : List γ} : (listOf [.lst (l.map fun x => D.bl (f x))] S).bind bls? = some (l.map f) := by
  have e : (l.map fun x => D.bl (f x)) = (l.map f).map .bl := by rw [List.map_map]; rfl
  rw [e]
  exact bls?_map _
theorem c_all {γ : Type} {f : γ → Bool} {l : List γ} : dAll [.lst (l.map fun x => D.bl (f x))] S = some (.bl (l.all f)) := by
  unfold dAll
  rw [blsM]
  show some (D.bl ((l.map f).all id)) = _
  rw [List.all_map]
  rfl
theorem c_any {γ : Type} {f : γ → Bool} {l : List γ} : dAny [.lst (l.map fun x => D.bl (f x))] S = some (.bl (l.any f)) := by
  unfold dAny
  rw [blsM]
  show some (D.bl ((l.map f).any id)) = _
  rw [List.any_map]
  rfl
theorem c_minP {p : Int × Int} : dMinL [encP p] S = some (.int (if p.2 < p.1 then p.2 else p.1)) := by
  show some (D.int (if decide (p.2 < p.1) = true then p.2 else p.1)) = _
  simp
theorem c_maxP {p : Int × Int} : dMaxL [encP p] S = some (.int (if p.2 > p.1 then p.2 else p.1)) := by
  show some (D.int (if decide (p.1 < p.2) = true then p.2 else p.1)) = _
  simp
theorem c_sortP {ps : List (Int × Int)} : sortD [.lst (ps.map encP)] S = some ((sortP ps).map encP) := sortD_ps ps
theorem c_zip : zipA [.lst l, .lst m] = some (pairsD l m) := nrfl rfl
theorem c_enum : enumA [.lst l] = some (enumD l) := nrfl rfl
theorem c_range1 : range1 [.int i] = rangeD 0 i := nrfl rfl
theorem c_range2 : range2 [.int i, .int j] = rangeD i j := nrfl rfl
theorem g_lst : itemsD (.lst l) = some l := nrfl rfl
theorem g_tup : itemsD (.tup l) = some l := nrfl rfl
theorem g_str : itemsD (.str x) = some (signsD x) := nrfl rfl
theorem p_int : partD (.int i) = some (some i) := nrfl rfl
theorem sq_lst : seqL S (.lst l) = some l := nrfl rfl
theorem sl_lst {lo hi : Option Int} : slD (.lst l) lo hi S = some (.lst (cutD l lo hi)) := nrfl rfl
theorem sl_tup {lo hi : Option Int} : slD (.tup l) lo hi S = some (.tup (cutD l lo hi)) := nrfl rfl
theorem sl_str {lo hi : Option Int} : slD (.str x) lo hi S = some (.str (cutS x lo hi)) := nrfl rfl
theorem slL_lst {lo hi : Option Int} : slL (.lst l) lo hi S = some (cutD l lo hi) := nrfl rfl
theorem om_some {β γ : Type} {f : β → γ} {a : β} : (some a).map f = some (f a) := nrfl rfl
theorem range_sm {i : Int} (h0 : 0 ≤ i) (h : i ≤ sizeLine) : rangeD 0 i = some ((List.range i.toNat).map fun k => D.int (k : Nat)) := by
  unfold rangeD
  have hz : sizeLine = 16777216 := by decide
  rw [if_pos ⟨⟨by omega, by omega, by omega, by omega⟩, by omega⟩]
  simp
/-! cells -/
def atL (S : Cells) (n : Nat) (P : List D → Prop) : Prop := ∃ l, S[n]? = some ⟨true, .lst l⟩ ∧ P l
theorem atL_of {n : Nat} {P : List D → Prop} (h : S[n]? = some ⟨true, .lst l⟩) : atL S n P = P l := propext ⟨fun ⟨_, e, q⟩ => by rw [h] at e; cases e; exact q, fun q => ⟨l, h, q⟩⟩
theorem atL_new {n : Nat} {P : List D → Prop} {R : Cells} (h : S.length = n) : atL (S ++ ⟨true, .lst l⟩ :: R) n P = P l := atL_of (by rw [← h]; simp)
theorem atL_new1 {n : Nat} {c : Cell} {P : List D → Prop} {R : Cells} (h : S.length = n) : atL (S ++ c :: ⟨true, .lst l⟩ :: R) (n + 1) P = P l := atL_of (by rw [← h]; simp)
theorem atL_new2 {n : Nat} {c c' : Cell} {P : List D → Prop} {R : Cells} (h : S.length = n) : atL (S ++ c :: c' :: ⟨true, .lst l⟩ :: R) (n + 2) P = P l := atL_of (by rw [← h]; simp)
theorem atL_old {n : Nat} {P : List D → Prop} {R : Cells} (h : n < S.length) : atL (S ++ R) n P = atL S n P := by
  unfold atL
  rw [List.getElem?_append_left h]
theorem set_new {n : Nat} {c c' : Cell} {R : Cells} (h : S.length = n) : (S ++ c :: R).set n c' = S ++ c' :: R := by
  rw [← h, List.set_append_right _ _ (Nat.le_refl _), Nat.sub_self]
  rfl
theorem set_new1 {n : Nat} {c c0 c' : Cell} {R : Cells} (h : S.length = n) : (S ++ c0 :: c :: R).set (n + 1) c' = S ++ c0 :: c' :: R := by
  rw [← h, List.set_append_right _ _ (Nat.le_succ _)]
  simp
theorem set_new2 {n : Nat} {c c0 c1 c' : Cell} {R : Cells} (h : S.length = n) : (S ++ c0 :: c1 :: c :: R).set (n + 2) c' = S ++ c0 :: c1 :: c' :: R := by
  rw [← h, List.set_append_right _ _ (by omega)]
  simp
theorem set_old {n : Nat} {c' : Cell} {R : Cells} (h : n < S.length) : (S ++ R).set n c' = S.set n c' ++ R := List.set_append_left _ _ h
theorem take_app {n : Nat} {R : Cells} (h : S.length = n) : (S ++ R).take n = S := by rw [← h, List.take_left']; rfl
theorem app_app {A B C : Cells} : (A ++ B) ++ C = A ++ (B ++ C) := List.append_assoc _ _ _
theorem cons_app {c : Cell} {B C : Cells} : (c :: B) ++ C = c :: (B ++ C) := nrfl rfl
theorem nil_app {C : Cells} : [] ++ C = C := nrfl rfl
theorem len_app1 {c : Cell} : (S ++ [c]).length = S.length + 1 := by simp
theorem len_app2 {c c1 : Cell} : (S ++ [c, c1]).length = S.length + 2 := by simp
theorem len_app3 {c c1 c2 : Cell} : (S ++ [c, c1, c2]).length = S.length + 3 := by simp
theorem len_set {n : Nat} {c : Cell} : (S.set n c).length = S.length := List.length_set
theorem m_tyL : isTy "list" (.lst l) S = some () := by
  show (if "list" = "list" ∧ (seqL S (.lst l)).isSome = true then some () else none) = _
  exact if_pos ⟨rfl, rfl⟩
theorem m_tyS : isTy "str" (.str x) S = some () := by
  show (if "str" = "str" then some () else none) = _
  exact if_pos rfl
theorem m_ty {n : Nat} {QU : Unit → Cells → Prop} : wpo (isTy "list" (.ref n) S) S' QU = (∃ l, seqL S (.ref n) = some l ∧ QU () S') := by
  unfold isTy
  simp only
  cases e : seqL S (.ref n) with
  | none =>
    rw [if_neg (by simp)]
    exact propext ⟨fun q => q.elim, fun ⟨_, z, _⟩ => nomatch z⟩
  | some l =>
    rw [if_pos (by simp)]
    exact propext ⟨fun q => ⟨l, rfl, q⟩, fun ⟨_, _, q⟩ => q⟩
theorem liveL_at {n : Nat} : liveL (.ref n) S = match S[n]? with
  | some ⟨true, .lst l⟩ => some (n, l)
  | _ => none := rfl
/-- o.append(x) -/
theorem m_app {n : Nat} : wpc (mAppend (.ref n) [d] S) Q = atL S n fun l => d.flat = true ∧ l.length < sizeLine ∧ Q .non (S.set n ⟨true, .lst (l ++ [d])⟩) := by
  unfold mAppend atL
  rw [liveL_at]
  split
  · rename_i x m l e1 e2
    cases e1
    split at e2
    · rename_i l' e3
      cases e2
      by_cases h : d.flat = true ∧ l.length < sizeLine
      · rw [if_pos h]
        exact propext ⟨fun q => ⟨l, e3, h.1, h.2, q⟩, fun ⟨l2, e4, _, _, q⟩ => by rw [e3] at e4; cases e4; exact q⟩
      · rw [if_neg h]
        exact propext ⟨fun q => q.elim, fun ⟨l2, e4, q1, q2, _⟩ => by rw [e3] at e4; cases e4; exact absurd ⟨q1, q2⟩ h⟩
    · cases e2
  · rename_i hn
    refine propext ⟨fun q => q.elim, fun ⟨l, e, _⟩ => ?_⟩
    exact (hn d n l rfl (by rw [e])).elim
theorem w_appM {n : Nat} {x : M (List D)} : wp (mthE "list" mAppend (kon (.ref n)) x S) Q E = wp (mthE "list" mAppend (kon (.ref n)) x S) Q E := nrfl rfl
theorem seq_at {n : Nat} {b : Bool} (h : S[n]? = some ⟨b, .lst l⟩) : seqL S (.ref n) = some l := seqL_ref h
theorem seq_new {n : Nat} {b : Bool} {R : Cells} (h : S.length = n) : seqL (S ++ ⟨b, .lst l⟩ :: R) (.ref n) = some l := seqL_ref (b := b) (by rw [← h]; simp)
theorem seq_new1 {n : Nat} {b : Bool} {c : Cell} {R : Cells} (h : S.length = n) : seqL (S ++ c :: ⟨b, .lst l⟩ :: R) (.ref (n + 1)) = some l := seqL_ref (b := b) (by rw [← h]; simp)
theorem seq_new2 {n : Nat} {b : Bool} {c c' : Cell} {R : Cells} (h : S.length = n) : seqL (S ++ c :: c' :: ⟨b, .lst l⟩ :: R) (.ref (n + 2)) = some l := seqL_ref (b := b) (by rw [← h]; simp)
theorem seq_old {n : Nat} {R : Cells} (h : n < S.length) : seqL (S ++ R) (.ref n) = seqL S (.ref n) := by
  unfold seqL
  simp only
  rw [List.getElem?_append_left h]
theorem ex_some {β : Type} {a : β} {P : β → Prop} : (∃ m, some a = some m ∧ P m) = P a := propext ⟨fun ⟨_, e, q⟩ => by cases e; exact q, fun q => ⟨a, rfl, q⟩⟩
theorem x_ref {n : Nat} : wpo (ixD (.ref n) (.int k) S) S' Q = wpo (seqL S (.ref n)) S' fun l S' => wAt l k S' Q := by
  show wpo ((seqL S (.ref n)).bind fun l => atI l k) S' Q = _
  cases seqL S (.ref n) with
  | none => rfl
  | some l => exact wAt_of
theorem c_lenR {n : Nat} : dLen [.ref n] S = (seqL S (.ref n)).map fun l => .int l.length := nrfl rfl
theorem c_listR {n : Nat} : dListOf [.ref n] S = seqL S (.ref n) := nrfl rfl
theorem c_tupR {n : Nat} : dTupleOf [.ref n] S = (seqL S (.ref n)).map fun l => D.tup l := nrfl rfl
theorem sl_ref {n : Nat} {lo hi : Option Int} : slD (.ref n) lo hi S = (seqL S (.ref n)).map fun l => .lst (cutD l lo hi) := by
  show (slL (.ref n) lo hi S).map D.lst = _
  unfold slL
  cases seqL S (.ref n) <;> rfl
/-- o[k] = y -/
theorem m_sto {n : Nat} {y : D} : wSto (setAtD (.ref n) (.int k) y S) ρ N = atL S n fun l => ∃ j, ixN l.length k = some j ∧ y.flat = true ∧ N ρ (S.set n ⟨true, .lst (l.set j y)⟩) := by
  unfold setAtD atL
  rw [liveL_at]
  cases e : S[n]? with
  | none => exact propext ⟨fun q => q.elim, fun ⟨_, z, _⟩ => nomatch z⟩
  | some c =>
    obtain ⟨b, c⟩ := c
    cases c with
    | ins k fs => exact propext ⟨fun q => by cases b <;> exact q.elim, fun ⟨_, z, _⟩ => by cases z⟩
    | lst l =>
      cases b with
      | false => exact propext ⟨fun q => q.elim, fun ⟨_, z, _⟩ => by cases z⟩
      | true =>
        show wSto (match ixN l.length k with
          | some j => if y.flat = true then some (S.set n ⟨true, .lst (l.set j y)⟩) else none
          | none => none) ρ N = _
        cases ex : ixN l.length k with
        | none => exact propext ⟨fun q => q.elim, fun ⟨l2, z, j, ez, _⟩ => by cases z; rw [ex] at ez; cases ez⟩
        | some j =>
          by_cases h : y.flat = true
          · simp only [if_pos h]
            exact propext ⟨fun q => ⟨l, rfl, j, ex, h, q⟩, fun ⟨l2, z, j2, ez, _, q⟩ => by cases z; rw [ex] at ez; cases ez; exact q⟩
          · simp only [if_neg h]
            exact propext ⟨fun q => q.elim, fun ⟨l2, z, j2, ez, q, _⟩ => absurd q h⟩
/-- a list that is read from now on -/
theorem m_fzL : wp (fzM (.lst l) S) Q E = Q (.lst l) S := nrfl rfl
theorem m_fzI : wp (fzM (.int i) S) Q E = Q (.int i) S := nrfl rfl
theorem m_fzT : wp (fzM (.tup l) S) Q E = Q (.tup l) S := nrfl rfl
theorem m_fz {n : Nat} : wp (fzM (.ref n) S) Q E = wpo (seqL S (.ref n)) S fun l S => Q (.lst l) (S.set n ⟨false, .lst l⟩) := by
  unfold fzM M.chg seqL
  simp only
  cases e : S[n]? with
  | none => rfl
  | some c =>
    obtain ⟨b, c⟩ := c
    cases c <;> rfl
theorem fl_non : (D.non).flat = true := by simp
theorem fl_int : (D.int i).flat = true := by simp
theorem fl_bl {b : Bool} : (D.bl b).flat = true := by simp
theorem fl_str : (D.str x).flat = true := by simp
theorem fl_tup : (D.tup l).flat = flatL l := flat_tup l
theorem fl_lst : (D.lst l).flat = flatL l := flat_lst l
theorem fl_obj {n : Nat} : (D.obj n l).flat = flatL l := flat_obj n l
theorem fl_nil : flatL [] = true := nrfl rfl
theorem fl_cons : flatL (d :: l) = (d.flat && flatL l) := nrfl rfl
theorem fl_app : flatL (l ++ m) = (flatL l && flatL m) := by unfold flatL; exact List.all_append
theorem fl_encP {p : Int × Int} : (encP p).flat = true := flat_encP p
theorem fl_map {γ : Type} {f : γ → D} {l : List γ} (h : ∀ a ∈ l, (f a).flat = true) : flatL (l.map f) = true := by
  unfold flatL
  rw [List.all_map, List.all_eq_true]
  exact h
end
/-! loops -/
section
variable {γ σ : Type} {S : Cells} {ρ : En} {N : En → Cells → Prop} {Rt : D → Cells → Prop} {E : Xc → En → Cells → Prop} {p : Pat} {B : SM}
theorem w_forNil : wo (forD p B [] ρ S) N Rt E = N ρ S := nrfl rfl
theorem wo_step {k : SM} {o : Out} : wo (stepD k o) N Rt E = wo o (fun ρ S => wo (k ρ S) N Rt E) Rt E ∨ (∃ ρ S, o = .bk ρ S) ∨ ∃ ρ S, o = .ct ρ S := by
  cases o with
  | bk ρ S => exact .inr (.inl ⟨ρ, S, rfl⟩)
  | ct ρ S => exact .inr (.inr ⟨ρ, S, rfl⟩)
  | _ => exact .inl rfl
theorem w_forCons {d : D} {ds : List D} (h : wAsg p ρ (fun ρ1 S1 => wo (B ρ1 S1) (fun ρ2 S2 => wo (forD p B ds ρ2 S2) N Rt E) Rt E) d S) : wo (forD p B (d :: ds) ρ S) N Rt E := by
  rw [forD_cons]
  unfold wAsg at h
  cases e : p.put d ρ with
  | none => rw [e] at h; exact h.elim
  | some ρ1 =>
    rw [e] at h
    have h : wo (B ρ1 S) (fun ρ2 S2 => wo (forD p B ds ρ2 S2) N Rt E) Rt E := h
    show wo (stepD (forD p B ds) (B ρ1 S)) N Rt E
    cases eb : B ρ1 S with
    | bk ρ S => rw [eb] at h; exact h.elim
    | ct ρ S => rw [eb] at h; exact h.elim
    | stuck => rw [eb] at h; exact h.elim
    | _ => rw [eb] at h; exact h
/-- a loop by an invariant over the items that are left -/
theorem for_wp (enc : γ → D) (I : List γ → En → Cells → Prop) (hs : ∀ a r ρ S, I (a :: r) ρ S → wAsg p ρ (fun ρ1 S1 => wo (B ρ1 S1) (I r) Rt E) (enc a) S) (he : ∀ ρ S, I [] ρ S → N ρ S) : ∀ (l : List γ) (ρ : En) (S : Cells), I l ρ S → wo (forD p B (l.map enc) ρ S) N Rt E
  | [], ρ, S, h => he ρ S h
  | a :: l, ρ, S, h => by
    refine w_forCons ?_
    have q := hs a l ρ S h
    unfold wAsg at q ⊢
    cases e : p.put (enc a) ρ with
    | none => rw [e] at q; exact q.elim
    | some ρ1 =>
      rw [e] at q
      exact wo_mono q (fun ρ2 S2 z => for_wp enc I hs he l ρ2 S2 z) (fun _ _ z => z) (fun _ _ _ z => z)
/-- .. by a state of one's own -/
theorem for_st (enc : γ → D) (e : σ → En) (c : σ → Cells) (P : σ → List γ → Prop) (l : List γ) (s0 : σ) (h0 : P s0 l) (hs : ∀ s a r, P s (a :: r) → wAsg p (e s) (fun ρ1 S1 => wo (B ρ1 S1) (fun ρ2 S2 => ∃ s', ρ2 = e s' ∧ S2 = c s' ∧ P s' r) Rt E) (enc a) (c s)) (he : ∀ s, P s [] → N (e s) (c s))
    (hρ : ρ = e s0 := by rfl) (hS : S = c s0 := by rfl) : wo (forD p B (l.map enc) ρ S) N Rt E := by
  subst hρ
  subst hS
  refine for_wp enc (fun r ρ S => ∃ s, ρ = e s ∧ S = c s ∧ P s r) (fun a r ρ S ⟨s, e1, e2, h⟩ => ?_) (fun ρ S ⟨s, e1, e2, h⟩ => ?_) l _ _ ⟨s0, rfl, rfl, h0⟩
  · subst e1
    subst e2
    exact hs s a r h
  · subst e1
    subst e2
    exact he s h
theorem while_st {tc : En → M Bool} (e : σ → En) (c : σ → Cells) (P : σ → Prop) (μ : σ → Nat)
    (hs : ∀ s, P s → wp (tc (e s) (c s)) (fun b S1 => wif b (wo (B (e s) S1) (fun ρ2 S2 => ∃ s', ρ2 = e s' ∧ S2 = c s' ∧ P s' ∧ μ s' < μ s) Rt E) (N (e s) S1)) (fun x S => E x (e s) S)) : ∀ (n : Nat) (s : σ), P s → μ s < n → wo (whileW tc B (e s) (c s)) N Rt E := by
  have key : ∀ (n : Nat) (s : σ), P s → μ s < n → wo (whileD tc B n (e s) (c s)) N Rt E := by
    intro n
    induction n with
    | zero => intro s _ h; omega
    | succ n ih =>
      intro s hp hm
      have q := hs s hp
      show wo (tstM (tc (e s) (c s)) (e s) fun S1 => stepD (whileD tc B n) (B (e s) S1)) N Rt E
      cases et : tc (e s) (c s) with
      | ok b S1 =>
        rw [et] at q
        have q : wif b _ _ := q
        cases b with
        | false => exact q.2 rfl
        | true =>
          have q := q.1 rfl
          show wo (stepD (whileD tc B n) (B (e s) S1)) N Rt E
          cases eb : B (e s) S1 with
          | nx ρ2 S2 =>
            rw [eb] at q
            obtain ⟨s', rfl, rfl, hp', hm'⟩ := q
            exact ih s' hp' (by omega)
          | rt d S2 => rw [eb] at q; exact q
          | er x ρ S2 => rw [eb] at q; exact q
          | bk _ _ => rw [eb] at q; exact q.elim
          | ct _ _ => rw [eb] at q; exact q.elim
          | stuck => rw [eb] at q; exact q.elim
      | err x S1 => rw [et] at q; exact q
      | stuck => rw [et] at q; exact q.elim
  intro n s hp hm
  have k := key n s hp hm
  have hne : whileD tc B n (e s) (c s) ≠ .stuck := fun z => by rw [z] at k; exact k.elim
  rw [whileW_of rfl hne]
  exact k
theorem w_while {tc : En → M Bool} (e : σ → En) (c : σ → Cells) (P : σ → Prop) (μ : σ → Nat) (s0 : σ) (h0 : P s0)
    (hs : ∀ s, P s → wp (tc (e s) (c s)) (fun b S1 => wif b (wo (B (e s) S1) (fun ρ2 S2 => ∃ s', ρ2 = e s' ∧ S2 = c s' ∧ P s' ∧ μ s' < μ s) Rt E) (N (e s) S1)) (fun x S => E x (e s) S)) (hρ : ρ = e s0 := by rfl) (hS : S = c s0 := by rfl) : wo (whileW tc B ρ S) N Rt E := by
  subst hρ
  subst hS
  exact while_st e c P μ hs _ s0 h0 (Nat.lt_succ_self _)
end
/-! comprehensions -/
section
variable {γ σ : Type} {S : Cells} {ρ : En} {E : Xc → Cells → Prop} {p : Pat} {ft : En → M Bool} {fe : En → M D}
theorem w_compNil {QL : List D → Cells → Prop} : wp (compD p ft fe ρ [] S) QL E = QL [] S := nrfl rfl
theorem w_yes {QB : Bool → Cells → Prop} : wp (yesM S) QB E = QB true S := nrfl rfl
def cStep (p : Pat) (ft : En → M Bool) (fe : En → M D) (ρ : En) (d : D) (S : Cells) (K : Option D → Cells → Prop) : Prop :=
  wAsg p ρ (fun ρ1 S1 => wp (ft ρ1 S1) (fun b S2 => wif b (wp (fe ρ1 S2) (fun y S3 => K (some y) S3) noE) (K none S2)) noE) d S
theorem cStep_mono {d : D} {K K' : Option D → Cells → Prop} (h : cStep p ft fe ρ d S K) (i : ∀ o S, K o S → K' o S) : cStep p ft fe ρ d S K' := by
  unfold cStep wAsg at *
  cases e : p.put d ρ with
  | none => rw [e] at h; exact h
  | some ρ1 =>
    rw [e] at h
    refine wp_mono h (fun b S2 q => ⟨fun hb => wp_mono (q.1 hb) (fun y S3 z => i _ _ z) (fun _ _ z => z), fun hb => i _ _ (q.2 hb)⟩) (fun _ _ z => z)
theorem w_compCons {QL : List D → Cells → Prop} {d : D} {ds : List D} (h : cStep p ft fe ρ d S fun o S1 => wp (compD p ft fe ρ ds S1) (fun l S2 => QL (match o with
    | some y => y :: l
    | none => l) S2) E) : wp (compD p ft fe ρ (d :: ds) S) QL E := by
  unfold compD
  unfold cStep wAsg at h
  cases e : p.put d ρ with
  | none => rw [e] at h; exact h.elim
  | some ρ1 =>
    rw [e] at h
    show wp (M.bind (calmM (ft ρ1)) _ S) QL E
    rw [w_bind, w_calm]
    have h : wp (ft ρ1 S) _ noE := h
    refine wp_mono h (fun b S2 q => ?_) (fun _ _ z => z)
    cases b with
    | true =>
      have q := q.1 rfl
      show wp (M.bind (calmM (fe ρ1)) _ S2) QL E
      rw [w_bind, w_calm]
      refine wp_mono q (fun y S3 z => ?_) (fun _ _ z => z)
      show wp (M.bind (compD p ft fe ρ ds) _ S3) QL E
      rw [w_bind]
      exact z
    | false => exact q.2 rfl
theorem comp_wp {QL : List D → Cells → Prop} (enc : γ → D) (f : γ → Option D) (l : List γ) (h : ∀ a ∈ l, cStep p ft fe ρ (enc a) S fun o S1 => o = f a ∧ S1 = S) (q : QL (l.filterMap f) S) : wp (compD p ft fe ρ (l.map enc) S) QL E := by
  have e : compD p ft fe ρ (l.map enc) S = .ok (l.filterMap f) S := by
    clear q
    induction l with
    | nil => rfl
    | cons a l ih =>
      refine wp_ok ?_
      rw [List.map_cons]
      refine w_compCons (cStep_mono (h a List.mem_cons_self) fun o S1 ⟨e1, e2⟩ => ?_)
      subst e2
      subst e1
      refine wp_of (ih fun b hb => h b (List.mem_cons_of_mem _ hb)) ⟨?_, rfl⟩
      rw [List.filterMap_cons]
      cases f a <;> rfl
  exact wp_of e q
theorem comp_map_wp {QL : List D → Cells → Prop} (enc : γ → D) (g : γ → D) (l : List γ) (h : ∀ a ∈ l, cStep p ft fe ρ (enc a) S fun o S1 => o = some (g a) ∧ S1 = S) (q : QL (l.map g) S) : wp (compD p ft fe ρ (l.map enc) S) QL E := by
  refine comp_wp enc (fun a => some (g a)) l h ?_
  have e : l.filterMap (fun a => some (g a)) = l.map g := by
    clear q h
    induction l with
    | nil => rfl
    | cons a l ih => rw [List.filterMap_cons, ih]; rfl
  rw [e]
  exact q
theorem comp_fil_wp {QL : List D → Cells → Prop} (enc : γ → D) (t : γ → Bool) (g : γ → D) (l : List γ) (h : ∀ a ∈ l, cStep p ft fe ρ (enc a) S fun o S1 => o = (if t a = true then some (g a) else none) ∧ S1 = S) (q : QL ((l.filter t).map g) S) : wp (compD p ft fe ρ (l.map enc) S) QL E := by
  refine comp_wp enc (fun a => if t a = true then some (g a) else none) l h ?_
  have e : l.filterMap (fun a => if t a = true then some (g a) else none) = (l.filter t).map g := by
    clear q h
    induction l with
    | nil => rfl
    | cons a l ih =>
      rw [List.filterMap_cons, List.filter_cons]
      cases t a
      · exact ih
      · show g a :: _ = g a :: _
        rw [ih]
  rw [e]
  exact q
/-- each item by a step that changes the store -/
theorem comp_st (enc : γ → D) (c : σ → Cells) (P : σ → List D → List γ → Prop) (hs : ∀ s acc a r, P s acc (a :: r) → cStep p ft fe ρ (enc a) (c s) fun o S1 => ∃ s', S1 = c s' ∧ P s' (acc ++ o.toList) r) 
    : ∀ (l : List γ) (s : σ) (acc : List D) (QL : List D → Cells → Prop), P s acc l → (∀ s' out, P s' (acc ++ out) [] → QL out (c s')) → wp (compD p ft fe ρ (l.map enc) (c s)) QL E
  | [], s, acc, QL, h, q => q s [] (by rw [List.append_nil]; exact h)
  | a :: l, s, acc, QL, h, q => by
    refine w_compCons (cStep_mono (hs s acc a l h) fun o S1 ⟨s', e1, h'⟩ => ?_)
    subst e1
    cases o with
    | none => exact comp_st enc c P hs l s' acc _ (by simpa using h') q
    | some y =>
      refine comp_st enc c P hs l s' (acc ++ [y]) (fun l S2 => QL (y :: l) S2) h' fun s2 out h2 => q s2 (y :: out) ?_
      rw [List.append_assoc] at h2
      exact h2
end
end DL
end
section
set_option maxHeartbeats 4000000
/-! DY: rules for instances. -/
namespace DL
open PySem PySem.Spec L2
open PyProof.Rows hiding St
theorem ilen_cons {α : Type} {x : α} {l : List α} : ((x :: l).length : Int) = (l.length : Int) + 1 := by simp
theorem ilen_nil {α : Type} : (([] : List α).length : Int) = 0 := nrfl rfl
theorem w_rangeN {n : Nat} {S : Cells} {QL : List D → Cells → Prop} (h : n ≤ sizeLine) : wpo (rangeD 0 (n : Int)) S QL = QL ((List.range n).map fun k : Nat => D.int k) S := by
  rw [range_sm (by omega) (by omega)]
  rfl
theorem w_rangeI {i : Int} {S : Cells} {QL : List D → Cells → Prop} (h0 : 0 ≤ i) (h : i ≤ sizeLine) : wpo (rangeD 0 i) S QL = QL ((List.range i.toNat).map fun k : Nat => D.int k) S := by
  rw [range_sm h0 h]
  rfl
theorem w_range2 {i j : Int} {S : Cells} {QL : List D → Cells → Prop} (h : 0 ≤ i ∧ i ≤ 1000000 ∧ 0 ≤ j ∧ j ≤ 1000000) : wpo (rangeD i j) S QL = QL ((List.range (j - i).toNat).map fun k : Nat => D.int (i + (k : Nat))) S := by
  have hz : sizeLine = 16777216 := by decide
  unfold rangeD
  rw [if_pos ⟨⟨by omega, by omega, by omega, by omega⟩, by omega⟩]
  rfl
theorem maxOf_facts : ∀ (xs : List Int) (x : Int), (maxI x xs ∈ x :: xs) ∧ ∀ y ∈ x :: xs, y ≤ maxI x xs := by
  intro xs
  induction xs with
  | nil => exact fun x => ⟨by simp [maxI, PySem.W.maxOf], fun y hy => by simp [maxI, PySem.W.maxOf] at hy ⊢; omega⟩
  | cons z xs ih =>
    intro x
    have e : maxI x (z :: xs) = maxI (if x < z then z else x) xs := by
      show PySem.W.maxOf x (z :: xs) = _
      unfold PySem.W.maxOf
      rw [List.foldl_cons]
      show List.foldl _ (if decide (x < z) = true then z else x) xs = _
      simp [maxI, PySem.W.maxOf]
    obtain ⟨h1, h2⟩ := ih (if x < z then z else x)
    rw [e]
    refine ⟨?_, fun y hy => ?_⟩
    · rcases List.mem_cons.mp h1 with h | h
      · rw [h]
        split <;> simp
      · exact List.mem_cons_of_mem _ (List.mem_cons_of_mem _ h)
    · have h3 := h2 _ List.mem_cons_self
      generalize maxI (if x < z then z else x) xs = m at *
      have h4 : x ≤ m ∧ z ≤ m := by
        by_cases hxz : x < z
        · rw [if_pos hxz] at h3
          omega
        · rw [if_neg hxz] at h3
          omega
      rcases List.mem_cons.mp hy with h | hy
      · rw [h]; exact h4.1
      · rcases List.mem_cons.mp hy with h | hy
        · rw [h]; exact h4.2
        · exact h2 y (List.mem_cons_of_mem _ hy)
theorem max_facts {ns : List Int} (h : ns ≠ []) : ∃ m, (∀ S, dMaxL [.lst (ns.map .int)] S = some (.int m)) ∧ m ∈ ns ∧ ∀ x ∈ ns, x ≤ m := by
  cases ns with
  | nil => exact absurd rfl h
  | cons x xs =>
    refine ⟨maxI x xs, fun S => ?_, maxOf_facts xs x⟩
    show (match (some ((x :: xs).map D.int)).bind ints? with
      | some (x :: xs) => some (D.int (maxI x xs))
      | _ => none) = _
    rw [show (some ((x :: xs).map D.int)).bind ints? = ints? ((x :: xs).map D.int) from rfl, ints?_map]
theorem wAt_map {γ : Type} {enc : γ → D} {l : List γ} {k : Int} {n : Nat} {a : γ} {S : Cells} {Q : D → Cells → Prop} (hk : k = (n : Nat)) (h : l[n]? = some a) : wAt (l.map enc) k S Q = Q (enc a) S := wAt_some (by rw [hk]; exact atI_nat (by rw [List.getElem?_map, h]; rfl))
theorem cut_1 {l : List D} : cutD l (some 1) none = l.drop 1 := cut1 l
theorem wretL_new {S R : Cells} {n : Nat} {l : List D} {Q : List D → Cells → Prop} (h : S.length = n) : wretL n (S ++ ⟨true, .lst l⟩ :: R) (.ref n) Q = Q l S := by
  have e : (S ++ ⟨true, .lst l⟩ :: R)[n]? = some ⟨true, .lst l⟩ := by rw [← h]; simp
  unfold wretL
  simp only
  refine propext ⟨fun ⟨_, l', e', q⟩ => ?_, fun q => ⟨Nat.le_refl _, l, e, ?_⟩⟩
  · rw [e] at e'
    cases e'
    rw [take_app h] at q
    exact q
  · rw [take_app h]
    exact q
theorem wret_new {S R : Cells} {n : Nat} {b : Bool} {l : List D} {Q : D → Cells → Prop} (h : S.length = n) : wret n (S ++ ⟨b, .lst l⟩ :: R) (.ref n) Q = Q (.lst l) S := by
  rw [wret_ref (b := b) (l := l) (Nat.le_refl _) (by rw [← h]; simp), take_app h]
theorem c_setSort {ns : List Int} {S S' : Cells} {QL : List D → Cells → Prop} : wpo (setSortD (.lst (ns.map .int)) S) S' QL = (ns.length < 4095 ∧ QL ((setSort ns).map .int) S') := by
  have e : setSortD (.lst (ns.map .int)) S = if ns.length + 1 < PySem.scanBound then some ((setSort ns).map .int) else none := by
    show (match (some (ns.map D.int)).bind ints? with
      | some ns => if ns.length + 1 < PySem.scanBound then some ((setSort ns).map D.int) else none
      | none => none) = _
    rw [show (some (ns.map D.int)).bind ints? = ints? (ns.map D.int) from rfl, ints?_map]
  rw [e, o_ite]
  have : PySem.scanBound = 4096 := rfl
  rw [this]
  exact propext ⟨fun ⟨a, b⟩ => ⟨by omega, b⟩, fun ⟨a, b⟩ => ⟨by omega, b⟩⟩
section
variable {α : Type} {S S' : Cells} {ρ : En} {Q : D → Cells → Prop} {QL : List D → Cells → Prop} {E : Xc → Cells → Prop} {N : En → Cells → Prop} {Rt : D → Cells → Prop} {EE : Xc → En → Cells → Prop}
  {NM : Nat → List Str} {cs : List Nat} {f m : Str} {c n : Nat} {g : List D → M D} {gL : List D → M (List D)} {o a b : M D} {x : M (List D)} {d e y : D} {l : List D}
theorem w_fld : wp (fldM NM cs f o S) Q E = wp (o S) (fun d S => wpo (fldD NM cs f d S) S Q) E := by
  unfold fldM
  simp only [wp, wpo, wo, U.w_bind, U.w_opt]
theorem w_mt : wp (mtE NM c m n g o x S) Q E = wp (o S) (fun d S => wpo (isC NM c m d S) S fun _ S => wp (x S) (fun l S => wp (arity n g (d :: l) S) Q noE) E) E := by
  unfold mtE
  simp only [wp, wpo, wo, U.w_bind, U.w_opt, U.w_calm]
theorem w_mtL : wp (mtL NM c m n gL o x S) QL E = wp (o S) (fun d S => wpo (isC NM c m d S) S fun _ S => wp (x S) (fun l S => wp (arity n gL (d :: l) S) QL noE) E) E := by
  unfold mtL
  simp only [wp, wpo, wo, U.w_bind, U.w_opt, U.w_calm]
theorem w_mt0 : wp (mt0E NM c m n g o S) Q E = wp (o S) (fun d S => wpo (isC NM c m d S) S fun _ S => wp (arity n g [d] S) Q noE) E := by
  unfold mt0E
  simp only [wp, wpo, wo, U.w_bind, U.w_opt, U.w_calm]
theorem w_mt0L : wp (mt0L NM c m n gL o S) QL E = wp (o S) (fun d S => wpo (isC NM c m d S) S fun _ S => wp (arity n gL [d] S) QL noE) E := by
  unfold mt0L
  simp only [wp, wpo, wo, U.w_bind, U.w_opt, U.w_calm]
theorem w_ic : wp (icE c n g o x S) Q E = wp (o S) (fun d S => wpo (isO c d S) S fun _ S => wp (x S) (fun l S => wp (arity n g (d :: l) S) Q noE) E) E := by
  unfold icE
  simp only [wp, wpo, wo, U.w_bind, U.w_opt, U.w_calm]
theorem isO_obj : isO c (.obj c l) S = some () := nrfl (if_pos rfl)
theorem w_make : wp (makeE NM c n g x S) Q E = wp (x S) (fun l S => wp (makeD NM c n g l S) Q E) E := by
  unfold makeE
  rw [w_bind]
theorem make_wp (hn : l.length + 1 = n) (h : wp (g (.ref S.length :: l) (S ++ [⟨true, .ins c []⟩])) (fun d S1 => d = .non ∧ ∃ b fs, S1[S.length]? = some ⟨b, .ins c fs⟩ ∧ fs.map (·.1) = NM c ∧ Q (.obj c (fs.map (·.2))) (S1.take S.length)) noE) : wp (makeD NM c n g l S) Q E := by
  unfold makeD
  rw [if_pos hn]
  cases eg : g (.ref S.length :: l) (S ++ [⟨true, .ins c []⟩]) with
  | err x S => rw [eg] at h; exact h.elim
  | stuck => rw [eg] at h; exact h.elim
  | ok d S1 =>
    rw [eg] at h
    obtain ⟨rfl, b, fs, e1, e2, q⟩ := h
    show wp (match S1[S.length]? with
      | some ⟨_, .ins c' fs⟩ => if c' = c ∧ fs.map (·.1) = NM c then .ok (.obj c (fs.map (·.2))) (S1.take S.length) else .stuck
      | _ => .stuck : R D) Q E
    rw [e1]
    simp only [e2, and_self, if_true]
    exact q
theorem w_b2M {op : D → D → M D} : wp (b2M op a b S) Q E = wp (a S) (fun x S => wp (b S) (fun y S => wp (op x y S) Q noE) E) E := by
  unfold b2M
  simp only [wp, wpo, wo, U.w_bind, U.w_calm]
theorem w_b2MT {op : D → D → M D} {QB : Bool → Cells → Prop} : wp (b2MT op a b S) QB E = wp (a S) (fun x S => wp (b S) (fun y S => wp (op x y S) (wB QB) noE) E) E := by
  unfold b2MT
  simp only [wp, wpo, wo, U.w_bind, U.w_calm, U.w_opt, U.w_asB]
theorem w_uM {op : D → M D} : wp (uM op a S) Q E = wp (a S) (fun x S => wp (op x S) Q noE) E := by
  unfold uM
  simp only [wp, wpo, wo, U.w_bind, U.w_calm]
theorem w_inv : wp (invOwn c g (.obj c l) S) Q E = wp (g [.obj c l] S) Q E := by
  unfold invOwn
  simp only [if_true]
theorem w_bin_obj {l' : List D} : wp (binOwn c g (.obj c l) (.obj c l') S) Q E = wp (g [.obj c l, .obj c l'] S) Q E := by
  show wp (if c = c then (if c = c then g [.obj c l, .obj c l'] S else .stuck) else .stuck) Q E = _
  rw [if_pos rfl, if_pos rfl]
theorem w_bin_int {i : Int} : wp (binOwn c g (.obj c l) (.int i) S) Q E = wp (g [.obj c l, .int i] S) Q E := by
  show wp (if c = c then g [.obj c l, .int i] S else .stuck) Q E = _
  rw [if_pos rfl]
theorem w_eq_of {r : DL.R D} (h : wp r (fun d S => ∃ k, d = .bl k ∧ Q (.bl k) S) noE) : wp (match r with
    | .ok (.bl b) S' => .ok (.bl b) S'
    | _ => .stuck : DL.R D) Q E := by
  cases r with
  | ok d S => obtain ⟨k, rfl, q⟩ := h; exact q
  | err x S => exact h.elim
  | stuck => exact h.elim
theorem w_eq_obj {l' : List D} (h : wp (g [.obj c l, .obj c l'] S) (fun d S => ∃ k, d = .bl k ∧ Q (.bl k) S) noE) : wp (eqOwn c g (.obj c l) (.obj c l') S) Q E := by
  unfold eqOwn
  simp only [if_true]
  cases eg : g [.obj c l, .obj c l'] S with
  | ok d S =>
    rw [eg] at h
    obtain ⟨k, rfl, q⟩ := h
    show wp (if c = c then R.ok (D.bl k) S else .stuck) Q E
    rw [if_pos rfl]
    exact q
  | err x S => rw [eg] at h; exact h.elim
  | stuck => rw [eg] at h; exact h.elim
theorem w_eq_plain (hp : ∃ t, tyName e = some t) (hr : ∀ n, e ≠ .ref n) (h : wp (g [.obj c l, e] S) (fun d S => ∃ k, d = .bl k ∧ Q (.bl k) S) noE) : wp (eqOwn c g (.obj c l) e S) Q E := by
  unfold eqOwn
  simp only [if_true]
  cases eg : g [.obj c l, e] S with
  | ok d S =>
    rw [eg] at h
    obtain ⟨k, rfl, q⟩ := h
    obtain ⟨t, et⟩ := hp
    cases e with
    | ref n => exact absurd rfl (hr n)
    | obj c l => cases et
    | _ => exact q
  | err x S => rw [eg] at h; exact h.elim
  | stuck => rw [eg] at h; exact h.elim
/-! self.f = e -/
theorem w_fldS {fv fo : En → M D} : wo (fldS cs f fv fo ρ S) N Rt EE = wp (fv ρ S) (fun y S => wp (fo ρ S) (fun d S => wSto (setFD cs f d y S) ρ N) (fun x S => EE x ρ S)) (fun x S => EE x ρ S) := by
  unfold fldS
  simp only [wp, wpo, wo, U.w_bS]
  congr 1
  funext y S
  congr 1
  funext d S
  cases setFD cs f d y S <;> rfl
def atI' (S : Cells) (n : Nat) (P : Nat → List (Str × D) → Prop) : Prop := ∃ c fs, S[n]? = some ⟨true, .ins c fs⟩ ∧ P c fs
theorem atI_new {n : Nat} {P : Nat → List (Str × D) → Prop} {fs : List (Str × D)} {R : Cells} (h : S.length = n) : atI' (S ++ ⟨true, .ins c fs⟩ :: R) n P = P c fs := by
  have e : (S ++ ⟨true, .ins c fs⟩ :: R)[n]? = some ⟨true, .ins c fs⟩ := by rw [← h]; simp
  exact propext ⟨fun ⟨_, _, e2, q⟩ => by rw [e] at e2; cases e2; exact q, fun q => ⟨c, fs, e, q⟩⟩
theorem m_fld : wSto (setFD cs f (.ref n) y S) ρ N = atI' S n fun c fs => (c ∈ cs ∧ y.flat = true ∧ fs.length < 1000) ∧ N ρ (S.set n ⟨true, .ins c (putD f y fs)⟩) := by
  unfold setFD atI'
  simp only
  cases e : S[n]? with
  | none => exact propext ⟨fun q => q.elim, fun ⟨_, _, z, _⟩ => nomatch z⟩
  | some ce =>
    obtain ⟨b, ce⟩ := ce
    cases ce with
    | lst l => exact propext ⟨fun q => by cases b <;> exact q.elim, fun ⟨_, _, z, _⟩ => by cases z⟩
    | ins c fs =>
      cases b with
      | false => exact propext ⟨fun q => q.elim, fun ⟨_, _, z, _⟩ => by cases z⟩
      | true =>
        show wSto (if c ∈ cs ∧ y.flat = true ∧ fs.length < 1000 then some (S.set n ⟨true, .ins c (putD f y fs)⟩) else none) ρ N = _
        by_cases h : c ∈ cs ∧ y.flat = true ∧ fs.length < 1000
        · rw [if_pos h]
          exact propext ⟨fun q => ⟨c, fs, rfl, h, q⟩, fun ⟨_, _, z, _, q⟩ => by cases z; exact q⟩
        · rw [if_neg h]
          exact propext ⟨fun q => q.elim, fun ⟨_, _, z, q, _⟩ => by cases z; exact absurd q h⟩
theorem w_repL {y : M D} : wp (repL_ x y S) QL E = wp (x S) (fun l S => wp (y S) (fun d S => wpo (repD l d) S QL) E) E := by
  unfold repL_
  simp only [wp, wpo, wo, U.w_bind, U.w_opt]
theorem w_isiC {tab : List (Nat × Bool)} : wp (isiCE tab o S) Q E = wp (o S) (fun d S => wpo (isiCD tab d S) S Q) E := by
  unfold isiCE
  simp only [wp, wpo, wo, U.w_bind, U.w_opt]
def wPar3 (i j k : Nat) (ρ : En) (N : En → Cells → Prop) (l : List D) (S : Cells) : Prop := match l with
  | [d, e, f] => N (((ρ.set i (some d)).set j (some e)).set k (some f)) S
  | _ => False
theorem wPar3_3 {i j k : Nat} {d e f : D} : wPar3 i j k ρ N [d, e, f] S = N (((ρ.set i (some d)).set j (some e)).set k (some f)) S := nrfl rfl
theorem w_par3 {i j k : Nat} {x : En → M (List D)} : wo (par3S i j k x ρ S) N Rt EE = wp (x ρ S) (wPar3 i j k ρ N) (fun x S => EE x ρ S) := by
  unfold par3S
  rw [w_bS]
  show U.wp _ _ _ = U.wp _ _ _
  congr 1
  funext l S
  unfold wPar3
  match l with
  | [] => rfl
  | [_] => rfl
  | [_, _] => rfl
  | [_, _, _] => rfl
  | _ :: _ :: _ :: _ :: _ => rfl
theorem m_count {k : Int} {ns : List Int} : wpc (mCount (.lst (ns.map .int)) [.int k] S) Q = Q (.int (ns.count k : Nat)) S := by
  show wpc ((((some (ns.map D.int)).bind ints?).map fun ns => (D.int (ns.count k : Nat), S))) Q = _
  rw [show ((some (ns.map D.int)).bind ints?) = ints? (ns.map D.int) from rfl, ints?_map]
  rfl
end
end DL
end
section
set_option maxHeartbeats 4000000
/-! DE: plain data of any form: equal to itself, written. -/
namespace DL
open PySem PySem.Spec L2
open PyProof.Rows hiding St
def strGood (x : Str) : Prop := (∀ c ∈ x.cps.toList, c < 0x110000) ∧ x.length ≤ 1000000
/-- plain data, n deep -/
inductive Gd : Nat → D → Prop
  | non {n : Nat} : Gd n .non
  | bl {n : Nat} {b : Bool} : Gd n (.bl b)
  | int {n : Nat} {i : Int} : logOk i → Gd n (.int i)
  | str {n : Nat} {x : Str} : strGood x → Gd n (.str x)
  | lst {n : Nat} {l : List D} : (∀ d ∈ l, Gd n d) → Gd (n + 1) (.lst l)
  | tup {n : Nat} {l : List D} : (∀ d ∈ l, Gd n d) → Gd (n + 1) (.tup l)
/-- an upper bound of the length of what is written -/
def wt : D → Nat
  | .non => 4
  | .bl _ => 5
  | .int _ => 1921
  | .str x => 10 * x.length + 2
  | .lst l => 3 + (l.attach.map fun ⟨d, _⟩ => wt d + 2).sum
  | .tup l => 3 + (l.attach.map fun ⟨d, _⟩ => wt d + 2).sum
  | _ => 0
def wtL (l : List D) : Nat := (l.map fun d => wt d + 2).sum
theorem wt_lst (l : List D) : wt (.lst l) = 3 + wtL l := by
  unfold wt wtL
  congr 2
  exact List.attach_map_val (f := fun d => wt d + 2)
theorem wt_tup (l : List D) : wt (.tup l) = 3 + wtL l := by
  unfold wt wtL
  congr 2
  exact List.attach_map_val (f := fun d => wt d + 2)
theorem wtL_nil : wtL [] = 0 := rfl
theorem wtL_cons {d : D} {l : List D} : wtL (d :: l) = wt d + 2 + wtL l := by unfold wtL; simp
theorem wtL_le {γ : Type} {f : γ → D} {l : List γ} {w : Nat} (h : ∀ a ∈ l, wt (f a) ≤ w) : wtL (l.map f) ≤ l.length * (w + 2) := by
  induction l with
  | nil => exact Nat.zero_le _
  | cons a l ih =>
    have := ih fun b hb => h b (List.mem_cons_of_mem _ hb)
    have := h a List.mem_cons_self
    rw [List.map_cons, wtL_cons, List.length_cons, Nat.add_mul, Nat.one_mul]
    omega
theorem wt_int {i : Int} : wt (.int i) = 1921 := by unfold wt; rfl
theorem wt_non : wt .non = 4 := by unfold wt; rfl
theorem wt_bl {b : Bool} : wt (.bl b) = 5 := by unfold wt; rfl
theorem wt_str {x : Str} : wt (.str x) = 10 * x.length + 2 := by unfold wt; rfl
structure PyG (n : Nat) (w : Nat) (p : PyData) : Prop where
  lay : p.canLay0 = true
  dep : p.depth ≤ n
  sho : p.showable = true
  dic : p.hasDict = false
  pla : p.plain = true
  len : p.shown.length ≤ w
structure PyGs (n : Nat) (w : Nat) (p : List PyData) : Prop where
  lay : PyData.canLayAll0 p = true
  dep : PyData.depthAll p ≤ n
  sho : PyData.showableAll p = true
  dic : PyData.hasDictAll p = false
  pla : PyData.plainAll p = true
  len : piled (PyData.shownAll p) ≤ w
theorem gd_flat {n : Nat} {d : D} (h : Gd n d) : d.flat = true := by
  induction h with
  | non => simp
  | bl => simp
  | int => simp
  | str => simp
  | lst h ih => rw [flat_lst]; unfold flatL; exact List.all_eq_true.mpr ih
  | tup h ih => rw [flat_tup]; unfold flatL; exact List.all_eq_true.mpr ih
theorem gd_list {n : Nat} : ∀ (l : List D), (∀ d ∈ l, Gd n d) → (∀ d ∈ l, ∃ p, toPy d = some p ∧ PyG n (wt d) p) → ∃ ps, toPyL l = some ps ∧ PyGs n (wtL l) ps
  | [], _, _ => ⟨[], rfl, ⟨rfl, Nat.zero_le _, rfl, rfl, rfl, Nat.zero_le _⟩⟩
  | d :: l, h, h2 => by
    obtain ⟨p, e, g⟩ := h2 d List.mem_cons_self
    obtain ⟨ps, es, gs⟩ := gd_list l (fun x hx => h x (List.mem_cons_of_mem _ hx)) (fun x hx => h2 x (List.mem_cons_of_mem _ hx))
    refine ⟨p :: ps, ?_, ⟨?_, ?_, ?_, ?_, ?_, ?_⟩⟩
    · show (match toPy d, toPyL l with
        | some e, some es => some (e :: es)
        | _, _ => none) = _
      rw [e, es]
    · show (p.canLay0 && PyData.canLayAll0 ps) = true
      rw [g.lay, gs.lay]; rfl
    · show max p.depth (PyData.depthAll ps) ≤ n
      exact Nat.max_le.mpr ⟨g.dep, gs.dep⟩
    · show (p.showable && PyData.showableAll ps) = true
      rw [g.sho, gs.sho]; rfl
    · show (p.hasDict || PyData.hasDictAll ps) = false
      rw [g.dic, gs.dic]; rfl
    · show (p.plain && PyData.plainAll ps) = true
      rw [g.pla, gs.pla]; rfl
    · rw [PyData.shownAll_cons, piled_cons, wtL_cons]
      have := g.len
      have := gs.len
      omega
theorem gd_py {n : Nat} {d : D} (h : Gd n d) : ∃ p, toPy d = some p ∧ PyG n (wt d) p := by
  induction h with
  | non => exact ⟨.none, rfl, ⟨rfl, Nat.zero_le _, rfl, rfl, rfl, by rw [wt_non]; exact (by decide : (PyData.none).shown.length ≤ 4)⟩⟩
  | @bl n b => exact ⟨.bool b, rfl, ⟨rfl, Nat.zero_le _, rfl, rfl, rfl, by rw [wt_bl]; cases b <;> decide +kernel⟩⟩
  | @int n i h => exact ⟨.int i, rfl, ⟨rfl, Nat.zero_le _, decide_eq_true h, rfl, rfl, by rw [wt_int]; exact shown_int_le h⟩⟩
  | @str n x h => exact ⟨.str x, rfl, ⟨by
      show PyData.strOk x = true
      unfold PyData.strOk
      rw [← Array.all_toList]
      exact List.all_eq_true.mpr fun c hc => decide_eq_true (h.1 c hc), Nat.zero_le _, rfl, rfl, rfl, by
      rw [wt_str]
      exact StrLaws.reprText_len x fun c hc => Nat.lt_trans (h.1 c hc) (by decide)⟩⟩
  | @lst n l h ih =>
    obtain ⟨ps, e, g⟩ := gd_list l h ih
    refine ⟨.list ps, by show (match toPyL l with | some m => some (PyData.list m) | none => none) = _; rw [e], ⟨g.lay, Nat.succ_le_succ g.dep, g.sho, g.dic, g.pla, ?_⟩⟩
    show (listText (PyData.shownAll ps)).length ≤ _
    have := listText_le (PyData.shownAll ps)
    have := g.len
    rw [wt_lst]
    omega
  | @tup n l h ih =>
    obtain ⟨ps, e, g⟩ := gd_list l h ih
    refine ⟨.tuple ps, by show (match toPyL l with | some m => some (PyData.tuple m) | none => none) = _; rw [e], ⟨g.lay, Nat.succ_le_succ g.dep, g.sho, g.dic, g.pla, ?_⟩⟩
    show (tupleText (PyData.shownAll ps)).length ≤ _
    have := tupleText_le (PyData.shownAll ps)
    have := g.len
    rw [wt_tup]
    omega
section
variable {S : Cells} {n : Nat} {d : D}
theorem gd_vw (h : Gd n d) : ∃ p, vw S d = some p ∧ PyG n (wt d) p := by
  obtain ⟨p, e, g⟩ := gd_py h
  refine ⟨p, ?_, g⟩
  unfold vw
  rw [resv_flat _ _ _ (gd_flat h)]
  exact e
theorem PyG.shaped {w : Nat} {p : PyData} (g : PyG n w p) (hn : n ≤ 64) : SeqAt.shaped p = true := by
  show (p.canLay0 && decide (p.depth ≤ 64)) = true
  rw [g.lay, decide_eq_true (Nat.le_trans g.dep hn)]
  rfl
theorem eqP_same (h : Gd n d) (hn : n ≤ 64) : eqP d d S = some true := by
  obtain ⟨p, e, g⟩ := gd_vw (S := S) h
  rw [eqP_of e e (g.shaped hn) (g.shaped hn), SeqAt.eqv_refl_plain p g.pla]
theorem dEq_same (h : Gd n d) (hn : n ≤ 64) : dEq d d S = some (.bl true) := by
  cases d with
  | str x => show some (D.bl (decide (x = x))) = _; rw [decide_eq_true rfl]
  | _ => exact (congrArg (Option.map D.bl) (eqP_same (S := S) h hn) : _)
theorem dNe_same (h : Gd n d) (hn : n ≤ 64) : dNe d d S = some (.bl false) := by
  cases d with
  | str x => show some (D.bl (!decide (x = x))) = _; rw [decide_eq_true rfl]; rfl
  | _ => exact (congrArg (Option.map fun b => D.bl (!b)) (eqP_same (S := S) h hn) : _)
theorem repr_some (h : Gd n d) (hn : n ≤ 60) (hw : wt d ≤ sizeLine) (hs : ∀ x, d ≠ .str x) (hb : ∀ b, d ≠ .bl b) : ∃ x, ∀ S, reprD [d] S = some (.str x) := by
  obtain ⟨p, e0, g⟩ := gd_py h
  have e : ∀ S, vw S d = some p := fun S => by unfold vw; rw [resv_flat _ _ _ (gd_flat h)]; exact e0
  cases h with
  | non => exact ⟨_, fun S => rfl⟩
  | bl => exact absurd rfl (hb _)
  | str => exact absurd rfl (hs _)
  | @int _ i h =>
    refine ⟨toString i, fun S => ?_⟩
    show (if i.natAbs.log2 < 1920 ∧ (toString i : Str).length ≤ sizeLine then some (D.str (toString i)) else none) = _
    have := shown_int_le h
    rw [PyData.shown_int] at this
    exact if_pos ⟨h, Nat.le_trans this (by decide)⟩
  | @lst _ l h =>
    obtain ⟨ps, rfl⟩ : ∃ ps, p = .list ps := by
      have e0 : (match toPyL l with | some m => some (PyData.list m) | none => none) = some p := e0
      cases q : toPyL l with
      | none => rw [q] at e0; cases e0
      | some m => rw [q] at e0; cases e0; exact ⟨m, rfl⟩
    refine ⟨(PyData.list ps).shown, fun S => ?_⟩
    show (match vw S (.lst l) with
      | some p => match p with
        | .list _ => if p.showable = true ∧ p.hasDict = false ∧ p.depth ≤ 60 ∧ p.shown.length ≤ sizeLine then some (D.str p.shown) else none
        | .tuple _ => if p.showable = true ∧ p.hasDict = false ∧ p.depth ≤ 60 ∧ p.shown.length ≤ sizeLine then some (D.str p.shown) else none
        | _ => none
      | none => none) = _
    rw [e S]
    exact if_pos ⟨g.sho, g.dic, Nat.le_trans g.dep hn, Nat.le_trans g.len hw⟩
  | @tup _ l h =>
    obtain ⟨ps, rfl⟩ : ∃ ps, p = .tuple ps := by
      have e0 : (match toPyL l with | some m => some (PyData.tuple m) | none => none) = some p := e0
      cases q : toPyL l with
      | none => rw [q] at e0; cases e0
      | some m => rw [q] at e0; cases e0; exact ⟨m, rfl⟩
    refine ⟨(PyData.tuple ps).shown, fun S => ?_⟩
    show (match vw S (.tup l) with
      | some p => match p with
        | .list _ => if p.showable = true ∧ p.hasDict = false ∧ p.depth ≤ 60 ∧ p.shown.length ≤ sizeLine then some (D.str p.shown) else none
        | .tuple _ => if p.showable = true ∧ p.hasDict = false ∧ p.depth ≤ 60 ∧ p.shown.length ≤ sizeLine then some (D.str p.shown) else none
        | _ => none
      | none => none) = _
    rw [e S]
    exact if_pos ⟨g.sho, g.dic, Nat.le_trans g.dep hn, Nat.le_trans g.len hw⟩
/-- a changed list, written: as the frozen one -/
theorem repr_refL {m : Nat} {b : Bool} {l : List D} (h : S[m]? = some ⟨b, .lst l⟩) (hf : flatL l = true) : reprD [.ref m] S = reprD [.lst l] S := by
  have e : vw S (.ref m) = vw S (.lst l) := by
    unfold vw
    rw [resv_flat _ _ (.lst l) (by rw [flat_lst]; exact hf)]
    unfold resv
    rw [if_neg (by omega), h]
  show (match vw S (.ref m) with
      | some p => match p with
        | .list _ => if p.showable = true ∧ p.hasDict = false ∧ p.depth ≤ 60 ∧ p.shown.length ≤ sizeLine then some (D.str p.shown) else none
        | .tuple _ => if p.showable = true ∧ p.hasDict = false ∧ p.depth ≤ 60 ∧ p.shown.length ≤ sizeLine then some (D.str p.shown) else none
        | _ => none
      | none => none) = _
  rw [e]
  rfl
theorem Gd.mono {m : Nat} (hm : n ≤ m) (h : Gd n d) : Gd m d := by
  induction h generalizing m with
  | non => exact .non
  | bl => exact .bl
  | int h => exact .int h
  | str h => exact .str h
  | @lst k l h ih =>
    obtain ⟨j, rfl⟩ : ∃ j, m = j + 1 := ⟨m - 1, by omega⟩
    exact .lst fun d hd => ih d hd (by omega)
  | @tup k l h ih =>
    obtain ⟨j, rfl⟩ : ∃ j, m = j + 1 := ⟨m - 1, by omega⟩
    exact .tup fun d hd => ih d hd (by omega)
theorem Gd.map {γ : Type} {f : γ → D} {l : List γ} (h : ∀ a ∈ l, Gd n (f a)) : ∀ d ∈ l.map f, Gd n d := fun d hd => by
  obtain ⟨a, ha, rfl⟩ := List.mem_map.mp hd
  exact h a ha
end
end DL
end
section
set_option maxHeartbeats 0
/-! MGrp: runs of neighbours, by the places where they begin. -/
namespace MG
section
variable {α : Type} (jo : α → α → Bool) (z : α)
def stp (acc : List (α × α)) (a : α) : List (α × α) := match acc.getLast? with
  | some q => if jo q.2 a = true then acc.dropLast ++ [(q.1, a)] else acc ++ [(a, a)]
  | none => [(a, a)]
/-- the first and the last one of each run -/
def grp (l : List α) : List (α × α) := l.foldl (stp jo) []
def tst (l : List α) (k : Nat) : Bool := k == 0 || !jo (l.getD (k - 1) z) (l.getD k z)
def begs (l : List α) : List Nat := (List.range l.length).filter (tst jo z l)
def prs : List Nat → Nat → List (Nat × Nat)
  | [], _ => []
  | [b], n => [(b, n)]
  | b :: c :: r, n => (b, c) :: prs (c :: r) n
theorem prs_zip : ∀ (bs : List Nat) (n : Nat), bs.zip (bs.drop 1 ++ [n]) = prs bs n
  | [], _ => rfl
  | [b], n => rfl
  | b :: c :: r, n => by
    have ih := prs_zip (c :: r) n
    show (b, c) :: (c :: r).zip (r ++ [n]) = (b, c) :: prs (c :: r) n
    rw [← ih]
    rfl
theorem prs_snoc : ∀ (bs : List Nat) (b n : Nat), prs (bs ++ [b]) n = prs bs b ++ [(b, n)]
  | [], _, _ => rfl
  | [c], b, n => rfl
  | c :: d :: r, b, n => by
    have ih := prs_snoc (d :: r) b n
    show (c, d) :: prs ((d :: r) ++ [b]) n = (c, d) :: prs (d :: r) b ++ [(b, n)]
    rw [ih]
    rfl
theorem prs_mem : ∀ (bs : List Nat) (n : Nat) (q : Nat × Nat), q ∈ prs bs n → q.1 ∈ bs ∧ (q.2 ∈ bs ∨ q.2 = n)
  | [], _, q, h => by simp [prs] at h
  | [b], n, q, h => by
    simp [prs] at h
    subst h
    simp
  | b :: c :: r, n, q, h => by
    rcases List.mem_cons.mp h with e | h
    · subst e
      simp
    · obtain ⟨h1, h2⟩ := prs_mem (c :: r) n q h
      exact ⟨List.mem_cons_of_mem _ h1, h2.imp (List.mem_cons_of_mem _) fun e => e⟩
theorem prs_lt : ∀ (bs : List Nat) (n : Nat), (bs ++ [n]).Pairwise (· < ·) → ∀ q ∈ prs bs n, q.1 < q.2
  | [], _, _, q, h => by simp [prs] at h
  | [b], n, s, q, h => by
    simp [prs] at h
    subst h
    simpa using s
  | b :: c :: r, n, s, q, h => by
    have s : (b :: ((c :: r) ++ [n])).Pairwise (· < ·) := s
    obtain ⟨s1, s2⟩ := List.pairwise_cons.mp s
    rcases List.mem_cons.mp h with e | h
    · subst e
      exact s1 c (by simp)
    · exact prs_lt (c :: r) n s2 q h
def pick (l : List α) (q : Nat × Nat) : α × α := (l.getD q.1 z, l.getD (q.2 - 1) z)
theorem begs_snoc (l : List α) (p : α) : begs jo z (l ++ [p]) = begs jo z l ++ if tst jo z (l ++ [p]) l.length = true then [l.length] else [] := by
  unfold begs
  rw [List.length_append, List.length_singleton, List.range_succ, List.filter_append]
  congr 1
  · apply List.filter_congr
    intro k hk
    rw [List.mem_range] at hk
    unfold tst
    rw [List.getD_eq_getElem?_getD, List.getD_eq_getElem?_getD, List.getD_eq_getElem?_getD, List.getD_eq_getElem?_getD, List.getElem?_append_left (by omega), List.getElem?_append_left (by omega)]
  · by_cases h : tst jo z (l ++ [p]) l.length = true
    · rw [if_pos h, List.filter_cons_of_pos h]
      rfl
    · rw [if_neg h, List.filter_cons_of_neg h]
      rfl
theorem begs_lt {l : List α} {b : Nat} (h : b ∈ begs jo z l) : b < l.length := by
  unfold begs at h
  exact List.mem_range.mp (List.mem_filter.mp h).1
theorem begs_sorted (l : List α) : (begs jo z l ++ [l.length]).Pairwise (· < ·) := by
  rw [List.pairwise_append]
  refine ⟨(List.pairwise_lt_range).filter _, List.pairwise_singleton _ _, fun a ha b hb => ?_⟩
  rw [List.mem_singleton] at hb
  subst hb
  exact begs_lt jo z ha
theorem begs_len (l : List α) : (begs jo z l).length ≤ l.length := by
  unfold begs
  exact Nat.le_trans (List.length_filter_le _ _) (Nat.le_of_eq List.length_range)
theorem begs_ne {l : List α} (h : l ≠ []) : begs jo z l ≠ [] := fun e => by
  have m : 0 ∈ begs jo z l := by
    unfold begs
    rw [List.mem_filter, List.mem_range]
    exact ⟨List.length_pos_iff.mpr h, rfl⟩
  rw [e] at m
  simp at m
theorem pick_app {l : List α} {p : α} {q : Nat × Nat} (h1 : q.1 < l.length) (h2 : q.2 - 1 < l.length) : pick z (l ++ [p]) q = pick z l q := by
  unfold pick
  rw [List.getD_eq_getElem?_getD, List.getD_eq_getElem?_getD, List.getD_eq_getElem?_getD, List.getD_eq_getElem?_getD, List.getElem?_append_left h1, List.getElem?_append_left h2]
theorem getD_last (l : List α) (p : α) : (l ++ [p]).getD l.length z = p := by simp [List.getD_eq_getElem?_getD]
theorem snoc_ind {α : Type} {C : List α → Prop} (h0 : C []) (h1 : ∀ l a, C l → C (l ++ [a])) (l : List α) : C l := by
  have key : ∀ m : List α, C m.reverse := fun m => by
    induction m with
    | nil => exact h0
    | cons a m ih =>
      rw [List.reverse_cons]
      exact h1 _ _ ih
  have := key l.reverse
  rwa [List.reverse_reverse] at this
theorem grp_snoc (l : List α) (a : α) : grp jo (l ++ [a]) = stp jo (grp jo l) a := by
  unfold grp
  rw [List.foldl_append]
  rfl
theorem stp_snoc (A : List (α × α)) (q : α × α) (a : α) : stp jo (A ++ [q]) a = if jo q.2 a = true then A ++ [(q.1, a)] else A ++ [q, (a, a)] := by
  unfold stp
  rw [List.getLast?_concat]
  simp only [List.dropLast_concat, List.append_assoc, List.cons_append, List.nil_append]
theorem begs_grp (l : List α) : (prs (begs jo z l) l.length).map (pick z l) = grp jo l ∧ (∀ q, (grp jo l).getLast? = some q → q.2 = l.getD (l.length - 1) z) := by
  induction l using snoc_ind with
  | h0 => exact ⟨rfl, fun q e => by simp [grp] at e⟩
  | h1 l p ih =>
    obtain ⟨ih, il⟩ := ih
    rw [grp_snoc, begs_snoc, List.length_append, List.length_singleton]
    rcases List.eq_nil_or_concat l with e | ⟨m, x, e⟩
    · subst e
      refine ⟨rfl, fun q e => ?_⟩
      have e : ([(p, p)] : List (α × α)).getLast? = some q := e
      simp at e
      subst e
      rfl
    · have hne : l ≠ [] := by subst e; simp
      have hpos : 0 < l.length := List.length_pos_iff.mpr hne
      have tn : tst jo z (l ++ [p]) l.length = !jo (l.getD (l.length - 1) z) p := by
        unfold tst
        rw [getD_last, List.getD_eq_getElem?_getD, List.getElem?_append_left (by omega), ← List.getD_eq_getElem?_getD]
        have : (l.length == 0) = false := by simp; exact hne
        rw [this]
        rfl
      obtain ⟨bs, b, eb⟩ := (List.eq_nil_or_concat (begs jo z l)).resolve_left (begs_ne jo z hne)
      rw [List.concat_eq_append] at eb
      have inb : ∀ c ∈ bs ++ [b], c < l.length := fun c hc => begs_lt jo z (by rw [eb]; exact hc)
      have lt : grp jo l = (prs bs b).map (pick z l) ++ [(l.getD b z, l.getD (l.length - 1) z)] := by
        rw [← ih, eb, prs_snoc, List.map_append]
        rfl
      have old : (prs bs b).map (pick z (l ++ [p])) = (prs bs b).map (pick z l) := by
        apply List.map_congr_left
        intro q hq
        obtain ⟨h1, h2⟩ := prs_mem _ _ _ hq
        have h1' := inb q.1 (List.mem_append_left _ h1)
        refine pick_app z h1' ?_
        rcases h2 with h2 | h2
        · have := inb q.2 (List.mem_append_left _ h2)
          omega
        · have := inb b (by simp)
          omega
      have hb := inb b (by simp)
      have gb : (l ++ [p]).getD b z = l.getD b z := by
        rw [List.getD_eq_getElem?_getD, List.getElem?_append_left hb, ← List.getD_eq_getElem?_getD]
      by_cases ht : jo (l.getD (l.length - 1) z) p = true
      · have tf : ¬ tst jo z (l ++ [p]) l.length = true := by rw [tn, ht]; simp
        rw [if_neg tf, List.append_nil, eb, prs_snoc, List.map_append, old, lt, stp_snoc, if_pos ht]
        refine ⟨?_, fun q e => ?_⟩
        · congr 1
          show [pick z (l ++ [p]) (b, l.length + 1)] = _
          unfold pick
          simp only [Nat.add_sub_cancel]
          rw [getD_last, gb]
        · rw [List.getLast?_concat] at e
          cases e
          simp only [Nat.add_sub_cancel]
          rw [getD_last]
      · have tt : tst jo z (l ++ [p]) l.length = true := by rw [tn]; simpa using ht
        rw [if_pos tt, prs_snoc, List.map_append, eb, prs_snoc, List.map_append, old, lt, stp_snoc, if_neg ht]
        refine ⟨?_, fun q e => ?_⟩
        · have e1 : pick z (l ++ [p]) (b, l.length) = (l.getD b z, l.getD (l.length - 1) z) := pick_app z hb (by show l.length - 1 < l.length; omega)
          have e2 : pick z (l ++ [p]) (l.length, l.length + 1) = (p, p) := by
            unfold pick
            simp only [Nat.add_sub_cancel]
            rw [getD_last]
          simp only [List.map_cons, List.map_nil, e1, e2, List.append_assoc]
          rfl
        · rw [show ∀ (A : List (α × α)) (u v : α × α), A ++ [u, v] = (A ++ [u]) ++ [v] from fun A u v => by simp, List.getLast?_concat] at e
          cases e
          simp only [Nat.add_sub_cancel]
          rw [getD_last]
end
end MG
end
section
set_option maxHeartbeats 1000000
/-! MProf: profiles as counts of distances. -/
namespace MP
abbrev P := Int × Int
abbrev T := Int × Int × Int
def inT (p : T) (d : Int) : Bool := decide (p.1 ≤ d) && decide (d ≤ p.2.1)
theorem inT_iff {p : T} {d : Int} : inT p d = true ↔ p.1 ≤ d ∧ d ≤ p.2.1 := by
  unfold inT
  rw [Bool.and_eq_true, decide_eq_true_eq, decide_eq_true_eq]
/-- how often a distance occurs -/
def cnt (l : List T) (d : Int) : Int := (l.map fun p => if inT p d = true then p.2.2 else 0).sum
theorem cnt_cons (p : T) (l : List T) (d : Int) : cnt (p :: l) d = (if inT p d = true then p.2.2 else 0) + cnt l d := rfl
theorem cnt_app (l m : List T) (d : Int) : cnt (l ++ m) d = cnt l d + cnt m d := by
  induction l with
  | nil => simp [cnt]
  | cons p l ih => rw [List.cons_append, cnt_cons, cnt_cons, ih]; omega
theorem cnt_nil (d : Int) : cnt [] d = 0 := rfl
theorem cnt_nn {l : List T} (h : ∀ p ∈ l, 0 ≤ p.2.2) (d : Int) : 0 ≤ cnt l d := by
  induction l with
  | nil => exact Int.le_refl _
  | cons p l ih =>
    have := ih fun q hq => h q (List.mem_cons_of_mem _ hq)
    have := h p List.mem_cons_self
    rw [cnt_cons]
    split <;> omega
/-! events -/
def evs (l : List T) : List P := l.map (fun p => (p.1, p.2.2)) ++ l.map (fun p => (p.2.1 + 1, 0 - p.2.2))
def pre (es : List P) (d : Int) : Int := (es.map fun e => if e.1 ≤ d then e.2 else 0).sum
theorem pre_cons (e : P) (es : List P) (d : Int) : pre (e :: es) d = (if e.1 ≤ d then e.2 else 0) + pre es d := rfl
theorem pre_app (a b : List P) (d : Int) : pre (a ++ b) d = pre a d + pre b d := by
  unfold pre
  rw [List.map_append, List.sum_append]
theorem pre_perm {a b : List P} (h : a.Perm b) (d : Int) : pre a d = pre b d := by
  induction h with
  | nil => rfl
  | cons x _ ih => rw [pre_cons, pre_cons, ih]
  | swap x y l => rw [pre_cons, pre_cons, pre_cons, pre_cons]; omega
  | trans _ _ h1 h2 => rw [h1, h2]
theorem pre_evs {l : List T} (h : ∀ p ∈ l, p.1 ≤ p.2.1) (d : Int) : pre (evs l) d = cnt l d := by
  unfold evs
  rw [pre_app]
  induction l with
  | nil => rfl
  | cons p l ih =>
    have ih := ih fun q hq => h q (List.mem_cons_of_mem _ hq)
    have hp := h p List.mem_cons_self
    rw [List.map_cons, List.map_cons, pre_cons, pre_cons, cnt_cons]
    unfold inT
    simp only [Bool.and_eq_true, decide_eq_true_eq]
    by_cases h1 : p.1 ≤ d <;> by_cases h2 : d ≤ p.2.1 <;> simp only [h1, h2, if_true, if_false, and_true, and_false, and_self]
    · rw [if_neg (by omega)]; omega
    · rw [if_pos (by omega)]; omega
    · rw [if_neg (by omega)]; omega
    · omega
/-! rows -/
def rst (R : List T × Int × Int) (e : P) : List T × Int × Int := if e.1 > R.2.2 then (R.1 ++ [(R.2.2, e.1 - 1, R.2.1)], R.2.1 + e.2, e.1) else (R.1, R.2.1 + e.2, R.2.2)
def rows (es : List P) : List T := (es.foldl rst ([], 0, 0)).1
def Ctg (a : Int) : List T → Int → Prop
  | [], b => a = b
  | r :: l, b => r.1 = a ∧ r.1 ≤ r.2.1 ∧ Ctg (r.2.1 + 1) l b
theorem Ctg.snoc : ∀ {a : Int} {l : List T} {b : Int} {r : T}, Ctg a l b → r.1 = b → r.1 ≤ r.2.1 → Ctg a (l ++ [r]) (r.2.1 + 1)
  | _, [], _, _, h, h1, h2 => ⟨h1.trans (Eq.symm h), h2, rfl⟩
  | _, _ :: _, _, _, h, h1, h2 => ⟨h.1, h.2.1, h.2.2.snoc h1 h2⟩
theorem rows_ok (f : Int → Int) : ∀ (B A : List P) (R : List T) (o b : Int), (∀ d, pre (A ++ B) d = f d) → (A ++ B).Pairwise (fun x y => x.1 ≤ y.1) → (∀ e ∈ A, e.1 ≤ b) → (∀ e ∈ B, b ≤ e.1) → o = (A.map (·.2)).sum →
    Ctg 0 R b → (∀ r ∈ R, ∀ d, inT r d = true → f d = r.2.2) →
    ∃ R' M, B.foldl rst (R, o, b) = (R', ((A ++ B).map (·.2)).sum, M) ∧ Ctg 0 R' M ∧ (∀ r ∈ R', ∀ d, inT r d = true → f d = r.2.2) ∧ (∀ e ∈ A ++ B, e.1 ≤ M)
  | [], A, R, o, b, _, _, ha, _, ho, hc, hr => ⟨R, b, by rw [ho, List.append_nil]; rfl, hc, hr, by rw [List.append_nil]; exact ha⟩
  | e :: B, A, R, o, b, hf, hs, ha, hb, ho, hc, hr => by
    have e1 : A ++ e :: B = (A ++ [e]) ++ B := by simp
    have hbe := hb e List.mem_cons_self
    have sB : ∀ x ∈ B, e.1 ≤ x.1 := fun x hx => (List.pairwise_cons.mp (List.pairwise_append.mp hs).2.1).1 x hx
    have ho' : o + e.2 = ((A ++ [e]).map (·.2)).sum := by
      rw [List.map_append, List.sum_append, ho]
      simp
    have hsum : ∀ d, b ≤ d → pre A d = o := fun d hd => by
      rw [ho]
      clear hf hs ho ho' e1
      induction A with
      | nil => rfl
      | cons x A ih =>
        have := ha x List.mem_cons_self
        rw [pre_cons, if_pos (by omega), ih fun y hy => ha y (List.mem_cons_of_mem _ hy)]
        simp
    have hz : ∀ d, d < e.1 → pre (e :: B) d = 0 := fun d hd => by
      have key : ∀ L : List P, (∀ x ∈ L, e.1 ≤ x.1) → pre L d = 0 := fun L hL => by
        induction L with
        | nil => rfl
        | cons x L ih =>
          have := hL x List.mem_cons_self
          rw [pre_cons, if_neg (by omega), ih fun y hy => hL y (List.mem_cons_of_mem _ hy)]
          rfl
      exact key _ fun x hx => by
        rcases List.mem_cons.mp hx with h | h
        · rw [h]; exact Int.le_refl _
        · exact sB x h
    rw [List.foldl_cons, e1]
    unfold rst
    simp only
    by_cases hg : e.1 > b
    · rw [if_pos hg]
      refine rows_ok f B (A ++ [e]) _ _ _ (by rw [← e1]; exact hf) (by rw [← e1]; exact hs) (fun x hx => ?_) sB ho' (by have := hc.snoc (r := (b, e.1 - 1, o)) rfl (by show b ≤ e.1 - 1; omega); simpa using this) (fun r hr' d hd => ?_)
      · rcases List.mem_append.mp hx with h | h
        · have := ha x h; omega
        · rw [List.mem_singleton] at h; rw [h]; exact Int.le_refl _
      · rcases List.mem_append.mp hr' with h | h
        · exact hr r h d hd
        · rw [List.mem_singleton] at h
          subst h
          unfold inT at hd
          simp only [Bool.and_eq_true, decide_eq_true_eq] at hd
          rw [← hf d, pre_app, hsum d hd.1, hz d (by omega)]
          simp
    · rw [if_neg hg]
      refine rows_ok f B (A ++ [e]) _ _ _ (by rw [← e1]; exact hf) (by rw [← e1]; exact hs) (fun x hx => ?_) (fun x hx => hb x (List.mem_cons_of_mem _ hx)) ho' hc hr
      rcases List.mem_append.mp hx with h | h
      · exact ha x h
      · rw [List.mem_singleton] at h; rw [h]; omega
/-! joined -/
def same (r s : T) : Bool := decide (s.2.2 = r.2.2)
def mk (q : T × T) : T := (q.1.1, q.2.2.1, q.1.2.2)
def jn (l : List T) : List T := (MG.grp same l).map mk
/-- contiguous, neighbours unlike -/
def Cg (a : Int) : List T → Int → Prop
  | [], b => a = b
  | r :: l, b => r.1 = a ∧ r.1 ≤ r.2.1 ∧ (∀ s, l.head? = some s → s.2.2 ≠ r.2.2) ∧ Cg (r.2.1 + 1) l b
theorem Cg.snoc : ∀ {a : Int} {l : List T} {b : Int} {r : T}, Cg a l b → r.1 = b → r.1 ≤ r.2.1 → (∀ s, l.getLast? = some s → r.2.2 ≠ s.2.2) → Cg a (l ++ [r]) (r.2.1 + 1)
  | _, [], _, _, h, h1, h2, _ => ⟨h1.trans (Eq.symm h), h2, fun s e => by simp at e, rfl⟩
  | _, q :: l, _, r, h, h1, h2, h3 => by
    refine ⟨h.1, h.2.1, fun s e => ?_, h.2.2.2.snoc h1 h2 fun s e => h3 s ?_⟩
    · cases l with
      | nil =>
        have : r = s := by simpa using e
        subst this
        exact h3 q (by simp)
      | cons x l => exact h.2.2.1 s (by simpa using e)
    · cases l with
      | nil => simp at e
      | cons x l => rw [List.getLast?_cons_cons]; exact e
theorem Cg.unsnoc : ∀ {a : Int} {l : List T} {b : Int} {r : T}, Cg a (l ++ [r]) b → Cg a l r.1 ∧ r.1 ≤ r.2.1 ∧ b = r.2.1 + 1 ∧ (∀ s, l.getLast? = some s → r.2.2 ≠ s.2.2)
  | _, [], _, _, h => ⟨Eq.symm h.1, h.2.1, Eq.symm h.2.2.2, fun s e => by simp at e⟩
  | _, q :: l, _, r, h => by
    obtain ⟨i1, i2, i3, i4⟩ := Cg.unsnoc h.2.2.2
    refine ⟨⟨h.1, h.2.1, fun s e => h.2.2.1 s ?_, i1⟩, i2, i3, fun s e => ?_⟩
    · cases l with
      | nil => simp at e
      | cons x l => simpa using e
    · cases l with
      | nil =>
        have : q = s := by simpa using e
        subst this
        exact h.2.2.1 r (by simp)
      | cons x l => exact i4 s (by rw [List.getLast?_cons_cons] at e; exact e)
theorem ctg_unsnoc : ∀ {a : Int} {l : List T} {b : Int} {r : T}, Ctg a (l ++ [r]) b → Ctg a l r.1 ∧ r.1 ≤ r.2.1 ∧ b = r.2.1 + 1
  | _, [], _, _, h => ⟨Eq.symm h.1, h.2.1, Eq.symm h.2.2⟩
  | _, q :: l, _, r, h => by
    obtain ⟨i1, i2, i3⟩ := ctg_unsnoc h.2.2
    exact ⟨⟨h.1, h.2.1, i1⟩, i2, i3⟩
theorem jn_ok (f : Int → Int) (l : List T) : ∀ b, Ctg 0 l b → (∀ r ∈ l, ∀ d, inT r d = true → f d = r.2.2) → Cg 0 (jn l) b ∧ (∀ r ∈ jn l, ∀ d, inT r d = true → f d = r.2.2) ∧ (∀ q, (MG.grp same l).getLast? = some q → q.1.2.2 = q.2.2.2 ∧ ∀ r, l.getLast? = some r → q.2 = r) := by
  induction l using MG.snoc_ind with
  | h0 => exact fun b h _ => ⟨h, fun r hr => by simp [jn, MG.grp] at hr, fun q e => by simp [MG.grp] at e⟩
  | h1 l r ih =>
    intro b hc hf
    obtain ⟨c1, c2, c3⟩ := ctg_unsnoc hc
    obtain ⟨i1, i2, i3⟩ := ih r.1 c1 fun q hq => hf q (List.mem_append_left _ hq)
    have hr := hf r (by simp)
    have last : ∀ (q : T × T) (A : List (T × T)), q.1.2.2 = q.2.2.2 → q.2 = r → ∀ q', (A ++ [q]).getLast? = some q' → q'.1.2.2 = q'.2.2.2 ∧ ∀ r', (l ++ [r]).getLast? = some r' → q'.2 = r' := fun q A h1 h2 q' e => by
      rw [List.getLast?_concat] at e
      cases e
      refine ⟨h1, fun r' e => ?_⟩
      rw [List.getLast?_concat] at e
      cases e
      exact h2
    unfold jn at i1 i2 ⊢
    rw [MG.grp_snoc]
    rcases List.eq_nil_or_concat (MG.grp same l) with e | ⟨A, q, e⟩
    · rw [e] at i1 i2
      have hg : MG.stp same (MG.grp same l) r = [] ++ [(r, r)] := by rw [e]; rfl
      rw [hg]
      have i1 : (0 : Int) = r.1 := i1
      exact ⟨⟨Eq.symm i1, c2, fun s e => by simp at e, Eq.symm c3⟩, fun s hs d hd => by
        have : s = mk (r, r) := by simpa using hs
        subst this
        exact hr d hd, last _ _ rfl rfl⟩
    · rw [List.concat_eq_append] at e
      have hq := i3 q (by rw [e, List.getLast?_concat])
      rw [e] at i1 i2
      rw [List.map_append] at i1 i2
      obtain ⟨u1, u2, u3, u4⟩ := i1.unsnoc
      rw [e, MG.stp_snoc]
      have hj : same q.2 r = decide (r.2.2 = q.2.2.2) := rfl
      by_cases hs : r.2.2 = q.2.2.2
      · rw [hj, if_pos (decide_eq_true hs), List.map_append]
        refine ⟨?_, fun s hs' d hd => ?_, last _ _ (by show q.1.2.2 = r.2.2; rw [hs]; exact hq.1) rfl⟩
        · rw [c3]
          refine Cg.snoc (r := mk (q.1, r)) u1 rfl ?_ u4
          show q.1.1 ≤ r.2.1
          have : q.1.1 ≤ q.2.2.1 := u2
          have u3 : r.1 = q.2.2.1 + 1 := u3
          omega
        · rcases List.mem_append.mp hs' with h | h
          · exact i2 s (List.mem_append_left _ h) d hd
          · have : s = mk (q.1, r) := by simpa using h
            subst this
            have hd : q.1.1 ≤ d ∧ d ≤ r.2.1 := inT_iff.mp hd
            have u3 : r.1 = q.2.2.1 + 1 := u3
            by_cases hd2 : d ≤ q.2.2.1
            · exact i2 (mk q) (by simp) d (inT_iff.mpr ⟨hd.1, hd2⟩)
            · show f d = q.1.2.2
              rw [hq.1, ← hs]
              exact hr d (inT_iff.mpr ⟨by omega, hd.2⟩)
      · rw [hj, if_neg (by simp [hs]), show A ++ [q, (r, r)] = (A ++ [q]) ++ [(r, r)] by simp, List.map_append, List.map_append]
        refine ⟨?_, fun s hs' d hd => ?_, last _ _ rfl rfl⟩
        · rw [c3]
          refine Cg.snoc (r := mk (r, r)) (b := r.1) i1 rfl c2 fun s e => ?_
          rw [List.map_singleton, List.getLast?_concat] at e
          cases e
          show r.2.2 ≠ q.1.2.2
          rw [hq.1]
          exact hs
        · rcases List.mem_append.mp hs' with h | h
          · exact i2 s (by simpa using h) d hd
          · have : s = mk (r, r) := by simpa using h
            subst this
            exact hr d hd
/-! canonical lists of pieces -/
def Canon (lo : Int) : List T → Prop
  | [] => True
  | r :: l => lo ≤ r.1 ∧ r.1 ≤ r.2.1 ∧ 0 < r.2.2 ∧ (∀ s, l.head? = some s → s.1 = r.2.1 + 1 → s.2.2 ≠ r.2.2) ∧ Canon (r.2.1 + 1) l
/-- ascending pieces -/
def Asc (lo : Int) : List T → Prop
  | [] => True
  | r :: l => lo ≤ r.1 ∧ r.1 ≤ r.2.1 ∧ 0 < r.2.2 ∧ Asc (r.2.1 + 1) l
theorem Canon.asc : ∀ {lo : Int} {l : List T}, Canon lo l → Asc lo l
  | _, [], _ => trivial
  | _, _ :: _, h => ⟨h.1, h.2.1, h.2.2.1, h.2.2.2.2.asc⟩
theorem Asc.mono {lo lo' : Int} (h : lo' ≤ lo) : ∀ {l : List T}, Asc lo l → Asc lo' l
  | [], _ => trivial
  | _ :: _, q => ⟨Int.le_trans h q.1, q.2⟩
theorem Canon.mono {lo lo' : Int} (h : lo' ≤ lo) : ∀ {l : List T}, Canon lo l → Canon lo' l
  | [], _ => trivial
  | _ :: _, q => ⟨Int.le_trans h q.1, q.2⟩
theorem Asc.mem : ∀ {lo : Int} {l : List T}, Asc lo l → ∀ p ∈ l, lo ≤ p.1 ∧ p.1 ≤ p.2.1 ∧ 0 < p.2.2
  | _, [], _, p, h => by simp at h
  | lo, r :: l, q, p, h => by
    rcases List.mem_cons.mp h with e | h
    · subst e; exact ⟨q.1, q.2.1, q.2.2.1⟩
    · have := q.2.2.2.mem p h
      have := q.1
      have := q.2.1
      omega
theorem Asc.low {lo : Int} {l : List T} (h : Asc lo l) {d : Int} (hd : d < lo) : cnt l d = 0 := by
  induction l generalizing lo with
  | nil => rfl
  | cons r l ih =>
    have := h.1
    have := h.2.1
    rw [cnt_cons, ih h.2.2.2 (by omega)]
    unfold inT
    rw [if_neg (by simp only [Bool.and_eq_true, decide_eq_true_eq]; omega)]
    rfl
theorem cg_canon : ∀ {a : Int} {l : List T} {b : Int}, Cg a l b → (∀ r ∈ l, 0 ≤ r.2.2) → Canon a (l.filter fun r => decide (0 < r.2.2)) ∧ (∀ s, (l.filter fun r => decide (0 < r.2.2)).head? = some s → s.1 = a → l.head? = some s)
  | _, [], _, _, _ => ⟨trivial, fun s e => by simp at e⟩
  | a, r :: l, b, h, hp => by
    obtain ⟨i1, i2⟩ := cg_canon h.2.2.2 fun q hq => hp q (List.mem_cons_of_mem _ hq)
    by_cases h0 : 0 < r.2.2
    · rw [List.filter_cons_of_pos (by simpa using h0)]
      refine ⟨⟨Int.le_of_eq (Eq.symm h.1), h.2.1, h0, fun s e es => h.2.2.1 s (i2 s e es), i1⟩, fun s e _ => by simpa using e⟩
    · rw [List.filter_cons_of_neg (by simpa using h0)]
      have h1 := h.1
      have h2 := h.2.1
      refine ⟨i1.mono (by omega), fun s e es => ?_⟩
      cases q : l.filter fun r => decide (0 < r.2.2) with
      | nil => rw [q] at e; simp at e
      | cons x m =>
        rw [q] at e i1
        have : x = s := by simpa using e
        subst this
        have := i1.1
        omega
theorem cg_le : ∀ {a : Int} {l : List T} {b : Int}, Cg a l b → a ≤ b
  | _, [], _, h => Int.le_of_eq h
  | _, r :: l, _, h => by
    have := cg_le h.2.2.2
    have := h.1
    have := h.2.1
    omega
theorem cg_cnt (f : Int → Int) : ∀ {a : Int} {l : List T} {b : Int}, Cg a l b → (∀ r ∈ l, ∀ d, inT r d = true → f d = r.2.2) → ∀ d, (a ≤ d → d < b → cnt l d = f d) ∧ (d < a ∨ b ≤ d → cnt l d = 0)
  | _, [], _, h, _, d => ⟨fun h1 h2 => by have h : _ = _ := h; omega, fun _ => rfl⟩
  | a, r :: l, b, h, hf, d => by
    obtain ⟨i1, i2⟩ := cg_cnt f h.2.2.2 (fun q hq => hf q (List.mem_cons_of_mem _ hq)) d
    have h1 := h.1
    have h2 := h.2.1
    have h3 := cg_le h.2.2.2
    rw [cnt_cons]
    by_cases hd : inT r d = true
    · rw [if_pos hd]
      have e := hf r List.mem_cons_self d hd
      unfold inT at hd
      simp only [Bool.and_eq_true, decide_eq_true_eq] at hd
      rw [i2 (by omega), e]
      exact ⟨fun _ _ => by omega, fun _ => by omega⟩
    · rw [if_neg hd]
      unfold inT at hd
      simp only [Bool.and_eq_true, decide_eq_true_eq] at hd
      exact ⟨fun _ _ => by rw [i1 (by omega) (by omega)]; omega, fun _ => by rw [i2 (by omega)]; rfl⟩
theorem cnt_filter {l : List T} (h : ∀ r ∈ l, 0 ≤ r.2.2) (d : Int) : cnt (l.filter fun r => decide (0 < r.2.2)) d = cnt l d := by
  induction l with
  | nil => rfl
  | cons r l ih =>
    have ih := ih fun q hq => h q (List.mem_cons_of_mem _ hq)
    have := h r List.mem_cons_self
    by_cases h0 : 0 < r.2.2
    · rw [List.filter_cons_of_pos (by simpa using h0), cnt_cons, cnt_cons, ih]
    · rw [List.filter_cons_of_neg (by simpa using h0), cnt_cons, ih]
      have : r.2.2 = 0 := by omega
      rw [this]
      split <;> omega
/-- the fewest pieces -/
def fin (l : List T) : List T := (jn (rows (DL.sortP (evs l)))).filter fun r => decide (0 < r.2.2)
theorem leP_iff (a b : P) : DL.leP a b = true ↔ a.1 < b.1 ∨ (a.1 = b.1 ∧ a.2 ≤ b.2) := by
  unfold DL.leP SrtO.lexB
  split
  · simp only [Bool.not_eq_true', decide_eq_false_iff_not]; omega
  · simp only [Bool.not_eq_true', decide_eq_false_iff_not]; omega
theorem leP_trans : ∀ a b c : P, DL.leP a b = true → DL.leP b c = true → DL.leP a c = true := fun a b c h1 h2 => by
  rw [leP_iff] at *
  omega
theorem leP_total : ∀ a b : P, (DL.leP a b || DL.leP b a) = true := fun a b => by
  rw [Bool.or_eq_true, leP_iff, leP_iff]
  omega
theorem sortP_perm (l : List P) : (DL.sortP l).Perm l := List.mergeSort_perm _ _
theorem sortP_le (l : List P) : (DL.sortP l).Pairwise (fun x y => x.1 ≤ y.1) := by
  have := List.pairwise_mergeSort leP_trans leP_total l
  exact this.imp fun {x y} h => by
    rw [leP_iff] at h
    omega
theorem evs_sum (l : List T) : ((evs l).map (·.2)).sum = 0 := by
  unfold evs
  rw [List.map_append, List.sum_append]
  induction l with
  | nil => rfl
  | cons p l ih =>
    simp only [List.map_cons, List.sum_cons] at *
    omega
theorem perm_sum {a b : List P} (h : a.Perm b) : (a.map (·.2)).sum = (b.map (·.2)).sum := by
  induction h with
  | nil => rfl
  | cons x _ ih => rw [List.map_cons, List.map_cons, List.sum_cons, List.sum_cons, ih]
  | swap x y l => simp only [List.map_cons, List.sum_cons]; omega
  | trans _ _ h1 h2 => rw [h1, h2]
theorem fin_ok {l : List T} (h : ∀ p ∈ l, 1 ≤ p.1 ∧ p.1 ≤ p.2.1 ∧ 0 ≤ p.2.2) : Canon 1 (fin l) ∧ ∀ d, cnt (fin l) d = cnt l d := by
  have hperm := sortP_perm (evs l)
  have hf : ∀ d, pre (DL.sortP (evs l)) d = cnt l d := fun d => by rw [pre_perm hperm, pre_evs fun p hp => (h p hp).2.1]
  have hpos : ∀ e ∈ DL.sortP (evs l), 1 ≤ e.1 := fun e he => by
    have he := hperm.mem_iff.mp he
    unfold evs at he
    rcases List.mem_append.mp he with he | he <;> obtain ⟨p, hp, rfl⟩ := List.mem_map.mp he <;> have := h p hp <;> simp only <;> omega
  obtain ⟨R, M, e1, e2, e3, e4⟩ := rows_ok (cnt l) (DL.sortP (evs l)) [] [] 0 0 hf (sortP_le _) (fun e he => by simp at he) (fun e he => by have := hpos e he; omega) rfl rfl (fun r hr => by simp at hr)
  have er : rows (DL.sortP (evs l)) = R := by unfold rows; rw [e1]
  obtain ⟨j1, j2, _⟩ := jn_ok (cnt l) R M e2 e3
  have nn : ∀ r ∈ jn R, 0 ≤ r.2.2 := fun r hr => by
    have hle : r.1 ≤ r.2.1 := by
      have key : ∀ {a : Int} {L : List T} {b : Int}, Cg a L b → ∀ r ∈ L, r.1 ≤ r.2.1 := by
        intro a L
        induction L generalizing a with
        | nil => intro b _ r hr; simp at hr
        | cons x L ih =>
          intro b hc r hr
          rcases List.mem_cons.mp hr with e | hr
          · subst e; exact hc.2.1
          · exact ih hc.2.2.2 r hr
      exact key j1 r hr
    rw [← j2 r hr r.1 (by unfold inT; simp only [Bool.and_eq_true, decide_eq_true_eq]; omega)]
    exact cnt_nn (fun p hp => (h p hp).2.2) _
  obtain ⟨c1, c2⟩ := cg_canon j1 nn
  have cz : ∀ d, cnt (fin l) d = cnt l d := fun d => by
    unfold fin
    rw [er, cnt_filter nn]
    obtain ⟨g1, g2⟩ := cg_cnt (cnt l) j1 j2 d
    by_cases hd : 0 ≤ d ∧ d < M
    · exact g1 hd.1 hd.2
    · rw [g2 (by omega)]
      have hz : cnt l d = 0 := by
        rw [← hf d]
        by_cases hd0 : d < 0
        · have key : ∀ L : List P, (∀ x ∈ L, 1 ≤ x.1) → pre L d = 0 := fun L hL => by
            induction L with
            | nil => rfl
            | cons x L ih =>
              have := hL x List.mem_cons_self
              rw [pre_cons, if_neg (by omega), ih fun y hy => hL y (List.mem_cons_of_mem _ hy)]
              rfl
          exact key _ hpos
        · have key : ∀ L : List P, (∀ x ∈ L, x.1 ≤ M) → pre L d = (L.map (·.2)).sum := fun L hL => by
            induction L with
            | nil => rfl
            | cons x L ih =>
              have := hL x List.mem_cons_self
              rw [pre_cons, if_pos (by omega), ih fun y hy => hL y (List.mem_cons_of_mem _ hy)]
              rfl
          rw [key (DL.sortP (evs l)) fun x hx => e4 x hx, perm_sum hperm, evs_sum]
      rw [hz]
  refine ⟨?_, cz⟩
  have hc0 : Canon 0 (fin l) := by unfold fin; rw [er]; exact c1
  cases hfin : fin l with
  | nil => trivial
  | cons r m =>
    rw [hfin] at hc0
    refine ⟨?_, hc0.2⟩
    have h0 := hc0.1
    by_cases h1 : 1 ≤ r.1
    · exact h1
    · exfalso
      have e0 : r.1 = 0 := by omega
      have := cz 0
      rw [hfin, cnt_cons, hc0.2.2.2.2.asc.low (by have := hc0.2.1; omega), if_pos (by unfold inT; simp only [Bool.and_eq_true, decide_eq_true_eq]; have := hc0.2.1; omega)] at this
      have z : cnt l 0 = 0 := by
        have key : ∀ L : List T, (∀ p ∈ L, 1 ≤ p.1) → cnt L 0 = 0 := fun L hL => by
          induction L with
          | nil => rfl
          | cons x L ih =>
            have := hL x List.mem_cons_self
            rw [cnt_cons, ih fun y hy => hL y (List.mem_cons_of_mem _ hy)]
            unfold inT
            rw [if_neg (by simp only [Bool.and_eq_true, decide_eq_true_eq]; omega)]
            rfl
        exact key l fun p hp => (h p hp).1
      have := hc0.2.2.1
      omega
/-! only one canonical list -/
theorem Canon.cnt_low {lo : Int} {r : T} {l : List T} (h : Canon lo (r :: l)) : (∀ d, d < r.1 → cnt (r :: l) d = 0) ∧ (∀ d, r.1 ≤ d → d ≤ r.2.1 → cnt (r :: l) d = r.2.2) ∧ (∀ d, r.2.1 < d → cnt (r :: l) d = cnt l d) := by
  have ha := h.2.2.2.2.asc
  have hle := h.2.1
  refine ⟨fun d hd => ?_, fun d h1 h2 => ?_, fun d hd => ?_⟩
  · rw [cnt_cons, ha.low (by omega)]
    unfold inT
    rw [if_neg (by simp only [Bool.and_eq_true, decide_eq_true_eq]; omega)]
    rfl
  · rw [cnt_cons, ha.low (by omega)]
    unfold inT
    rw [if_pos (by simp only [Bool.and_eq_true, decide_eq_true_eq]; omega)]
    omega
  · rw [cnt_cons]
    unfold inT
    rw [if_neg (by simp only [Bool.and_eq_true, decide_eq_true_eq]; omega)]
    omega
/-- behind the first piece something else -/
theorem Canon.next {lo : Int} {r : T} {l : List T} (h : Canon lo (r :: l)) : cnt (r :: l) (r.2.1 + 1) ≠ r.2.2 := by
  have hp := h.2.2.1
  rw [h.cnt_low.2.2 _ (by omega)]
  cases l with
  | nil => rw [cnt_nil]; omega
  | cons s m =>
    have h2 := h.2.2.2.2
    by_cases e : s.1 = r.2.1 + 1
    · rw [h2.cnt_low.2.1 _ (by omega) (by have := h2.2.1; omega)]
      exact h.2.2.2.1 s rfl e
    · rw [h2.cnt_low.1 _ (by have := h2.1; omega)]
      omega
theorem canon_uniq : ∀ {lo lo' : Int} {l m : List T}, Canon lo l → Canon lo' m → (∀ d, cnt l d = cnt m d) → l = m
  | _, _, [], [], _, _, _ => rfl
  | _, _, [], s :: m, _, h2, e => by
    have := e s.1
    rw [cnt_nil, h2.cnt_low.2.1 _ (Int.le_refl _) h2.2.1] at this
    have := h2.2.2.1
    omega
  | _, _, r :: l, [], h1, _, e => by
    have := e r.1
    rw [cnt_nil, h1.cnt_low.2.1 _ (Int.le_refl _) h1.2.1] at this
    have := h1.2.2.1
    omega
  | _, _, r :: l, s :: m, h1, h2, e => by
    have p1 := h1.2.2.1
    have p2 := h2.2.2.1
    have l1 := h1.2.1
    have l2 := h2.2.1
    have e1 : r.1 = s.1 := by
      rcases Int.lt_trichotomy r.1 s.1 with h | h | h
      · have := e r.1
        rw [h1.cnt_low.2.1 _ (Int.le_refl _) l1, h2.cnt_low.1 _ h] at this
        omega
      · exact h
      · have := e s.1
        rw [h2.cnt_low.2.1 _ (Int.le_refl _) l2, h1.cnt_low.1 _ h] at this
        omega
    have e2 : r.2.2 = s.2.2 := by
      have := e r.1
      rw [h1.cnt_low.2.1 _ (Int.le_refl _) l1, h2.cnt_low.2.1 _ (by omega) (by omega)] at this
      exact this
    have e3 : r.2.1 = s.2.1 := by
      rcases Int.lt_trichotomy r.2.1 s.2.1 with h | h | h
      · have := e (r.2.1 + 1)
        rw [h2.cnt_low.2.1 _ (by omega) (by omega), ← e2] at this
        exact absurd this h1.next
      · exact h
      · have := e (s.2.1 + 1)
        rw [h1.cnt_low.2.1 _ (by omega) (by omega), e2] at this
        exact absurd this.symm h2.next
    have er : r = s := by
      obtain ⟨a, b, c⟩ := r
      obtain ⟨a', b', c'⟩ := s
      simp only at e1 e2 e3
      rw [e1, e2, e3]
    subst er
    rw [canon_uniq h1.2.2.2.2 h2.2.2.2.2 fun d => by
      have := e d
      rw [cnt_cons, cnt_cons] at this
      omega]
theorem fin_canon {l : List T} (h : Canon 1 l) : fin l = l := by
  obtain ⟨a, b⟩ := fin_ok (l := l) fun p hp => by have := h.asc.mem p hp; omega
  exact canon_uniq a h b
/-! greater distances -/
def mx (a b : Int) : Int := if b > a then b else a
def byd (l : List T) (s : Int) : Int := (l.map fun p => p.2.2 * mx 0 (p.2.1 - mx (p.1 - 1) s)).sum
theorem byd_cons (p : T) (l : List T) (s : Int) : byd (p :: l) s = p.2.2 * mx 0 (p.2.1 - mx (p.1 - 1) s) + byd l s := rfl
theorem byd_step {l : List T} (h : ∀ p ∈ l, p.1 ≤ p.2.1) (s : Int) : byd l s - byd l (s + 1) = cnt l (s + 1) := by
  induction l with
  | nil => rfl
  | cons p l ih =>
    have ih := ih fun q hq => h q (List.mem_cons_of_mem _ hq)
    have hp := h p List.mem_cons_self
    rw [byd_cons, byd_cons, cnt_cons]
    have key : p.2.2 * mx 0 (p.2.1 - mx (p.1 - 1) s) - p.2.2 * mx 0 (p.2.1 - mx (p.1 - 1) (s + 1)) = if inT p (s + 1) = true then p.2.2 else 0 := by
      rw [← Int.mul_sub]
      have : mx 0 (p.2.1 - mx (p.1 - 1) s) - mx 0 (p.2.1 - mx (p.1 - 1) (s + 1)) = if inT p (s + 1) = true then 1 else 0 := by
        unfold mx inT
        simp only [Bool.and_eq_true, decide_eq_true_eq]
        repeat' split
        all_goals omega
      rw [this]
      split
      · exact Int.mul_one _
      · exact Int.mul_zero _
    omega
theorem byd_far {l : List T} {s : Int} (h : ∀ p ∈ l, p.2.1 ≤ s) : byd l s = 0 := by
  induction l with
  | nil => rfl
  | cons p l ih =>
    have ih := ih fun q hq => h q (List.mem_cons_of_mem _ hq)
    have hp := h p List.mem_cons_self
    rw [byd_cons, ih]
    have : mx 0 (p.2.1 - mx (p.1 - 1) s) = 0 := by
      unfold mx
      split <;> split <;> omega
    rw [this, Int.mul_zero]
    rfl
theorem top_of (l : List T) : ∃ M : Int, ∀ p ∈ l, p.2.1 ≤ M := by
  induction l with
  | nil => exact ⟨0, fun p h => by simp at h⟩
  | cons p l ih =>
    obtain ⟨M, h⟩ := ih
    refine ⟨mx p.2.1 M, fun q hq => ?_⟩
    unfold mx
    rcases List.mem_cons.mp hq with e | hq
    · subst e; split <;> omega
    · have := h q hq; split <;> omega
theorem byd_eq {l m : List T} (hl : ∀ p ∈ l, p.1 ≤ p.2.1) (hm : ∀ p ∈ m, p.1 ≤ p.2.1) (e : ∀ d, cnt l d = cnt m d) (s : Int) : byd l s = byd m s := by
  obtain ⟨M1, h1⟩ := top_of l
  obtain ⟨M2, h2⟩ := top_of m
  have key : ∀ (n : Nat) (s : Int), M1 ≤ s + n → M2 ≤ s + n → byd l s = byd m s := fun n => by
    induction n with
    | zero =>
      intro s a b
      rw [byd_far fun p hp => by have := h1 p hp; omega, byd_far fun p hp => by have := h2 p hp; omega]
    | succ n ih =>
      intro s a b
      have := ih (s + 1) (by omega) (by omega)
      have a1 := byd_step hl s
      have a2 := byd_step hm s
      have := e (s + 1)
      omega
  exact key ((M1 - s).toNat + (M2 - s).toNat) s (by omega) (by omega)
/-! corners -/
def ends (l : List T) : List Int := ((l.filter fun p => decide (p.1 > 1)).map fun p => p.1 - 1) ++ l.map fun p => p.2.1
theorem mem_ends {l : List T} {x : Int} : x ∈ ends l ↔ ∃ p ∈ l, (1 < p.1 ∧ p.1 - 1 = x) ∨ p.2.1 = x := by
  unfold ends
  rw [List.mem_append, List.mem_map, List.mem_map]
  constructor
  · rintro (⟨p, hp, e⟩ | ⟨p, hp, e⟩)
    · rw [List.mem_filter] at hp
      exact ⟨p, hp.1, .inl ⟨by simpa using hp.2, e⟩⟩
    · exact ⟨p, hp, .inr e⟩
  · rintro ⟨p, hp, ⟨h, e⟩ | e⟩
    · exact .inl ⟨p, List.mem_filter.mpr ⟨hp, by simpa using h⟩, e⟩
    · exact .inr ⟨p, hp, e⟩
theorem change_end {l : List T} (h : ∀ p ∈ l, 1 ≤ p.1) {x : Int} (hx : 1 ≤ x) (hc : cnt l x ≠ cnt l (x + 1)) : x ∈ ends l := by
  rw [mem_ends]
  induction l with
  | nil => exact absurd rfl hc
  | cons p l ih =>
    by_cases hp : (1 < p.1 ∧ p.1 - 1 = x) ∨ p.2.1 = x
    · exact ⟨p, List.mem_cons_self, hp⟩
    · have e : inT p x = inT p (x + 1) := by
        unfold inT
        have := h p List.mem_cons_self
        rw [Bool.eq_iff_iff]
        simp only [Bool.and_eq_true, decide_eq_true_eq]
        omega
      rw [cnt_cons, cnt_cons, e] at hc
      obtain ⟨q, hq, r⟩ := ih (fun q hq => h q (List.mem_cons_of_mem _ hq)) (by omega)
      exact ⟨q, List.mem_cons_of_mem _ hq, r⟩
theorem end_change : ∀ {lo : Int} {l : List T}, 1 ≤ lo → Canon lo l → ∀ x, x ∈ ends l → 1 ≤ x ∧ cnt l x ≠ cnt l (x + 1)
  | _, [], _, _, x, hx => by simp [ends] at hx
  | lo, r :: l, hlo, h, x, hx => by
    have hc := h.cnt_low
    have hle := h.2.1
    have hp := h.2.2.1
    have h1 := h.1
    rw [mem_ends] at hx
    obtain ⟨p, hp', hx⟩ := hx
    rcases List.mem_cons.mp hp' with e | hm
    · subst e
      rcases hx with ⟨h3, rfl⟩ | rfl
      · refine ⟨by omega, ?_⟩
        rw [hc.1 _ (by omega), hc.2.1 _ (by omega) (by omega)]
        omega
      · refine ⟨by omega, ?_⟩
        rw [hc.2.1 _ hle (Int.le_refl _)]
        exact fun e => h.next e.symm
    · have ih := end_change (by omega) h.2.2.2.2 x (mem_ends.mpr ⟨p, hm, hx⟩)
      refine ⟨ih.1, ?_⟩
      have hpm := h.2.2.2.2.asc.mem p hm
      by_cases hb : r.2.1 < x
      · rw [hc.2.2 _ hb, hc.2.2 _ (by omega)]
        exact ih.2
      · have ex : x = r.2.1 := by
          rcases hx with ⟨h3, rfl⟩ | rfl <;> omega
        rw [ex, hc.2.1 _ hle (Int.le_refl _)]
        exact fun e => h.next e.symm
/-! how many, how great -/
theorem rows_len : ∀ (es : List P) (R : List T) (o b : Int), (es.foldl rst (R, o, b)).1.length ≤ R.length + es.length
  | [], R, o, b => Nat.le_refl _
  | e :: es, R, o, b => by
    rw [List.foldl_cons, List.length_cons, rst]
    simp only
    split
    · have := rows_len es (R ++ [(b, e.1 - 1, o)]) (o + e.2) e.1
      rw [List.length_append, List.length_singleton] at this
      omega
    · have := rows_len es R (o + e.2) b
      omega
theorem jn_len (l : List T) : (jn l).length ≤ l.length := by
  unfold jn
  rw [List.length_map]
  induction l using MG.snoc_ind with
  | h0 => exact Nat.le_refl _
  | h1 l a ih =>
    rw [MG.grp_snoc, List.length_append, List.length_singleton]
    unfold MG.stp
    split
    · split
      · rw [List.length_append, List.length_dropLast, List.length_singleton]; omega
      · rw [List.length_append, List.length_singleton]; omega
    · simp
theorem fin_len (l : List T) : (fin l).length ≤ 2 * l.length := by
  unfold fin
  have h1 : ((jn (rows (DL.sortP (evs l)))).filter fun r => decide (0 < r.2.2)).length ≤ (jn (rows (DL.sortP (evs l)))).length := List.length_filter_le _ _
  have h2 := jn_len (rows (DL.sortP (evs l)))
  have h3 := rows_len (DL.sortP (evs l)) [] 0 0
  have h4 := (sortP_perm (evs l)).length_eq
  have h5 : (evs l).length = 2 * l.length := by unfold evs; rw [List.length_append, List.length_map, List.length_map]; omega
  have h6 : rows (DL.sortP (evs l)) = ((DL.sortP (evs l)).foldl rst ([], 0, 0)).1 := rfl
  rw [List.length_nil] at h3
  rw [h6] at h1 h2 ⊢
  omega
theorem cnt_mem {l : List T} {d : Int} (h : cnt l d ≠ 0) : ∃ p ∈ l, inT p d = true := by
  induction l with
  | nil => exact absurd rfl h
  | cons p l ih =>
    by_cases hp : inT p d = true
    · exact ⟨p, List.mem_cons_self, hp⟩
    · rw [cnt_cons, if_neg hp, Int.zero_add] at h
      obtain ⟨q, hq, r⟩ := ih h
      exact ⟨q, List.mem_cons_of_mem _ hq, r⟩
theorem asc_cnt : ∀ {lo : Int} {l : List T}, Asc lo l → ∀ {p : T}, p ∈ l → ∀ {d : Int}, inT p d = true → cnt l d = p.2.2
  | _, [], _, p, h, _, _ => by simp at h
  | lo, r :: l, ha, p, h, d, hd => by
    have hd' := inT_iff.mp hd
    rcases List.mem_cons.mp h with e | h
    · subst e
      rw [cnt_cons, if_pos hd, ha.2.2.2.low (by omega)]
      omega
    · have := ha.2.2.2.mem p h
      rw [cnt_cons, if_neg (fun z => by have := inT_iff.mp z; omega), asc_cnt ha.2.2.2 h hd]
      omega
/-- the fewest pieces are no greater -/
theorem fin_bound {l : List T} {b t : Int} (h : Asc 1 l) (hb : ∀ p ∈ l, p.2.1 ≤ b ∧ p.2.2 ≤ t) : ∀ p ∈ fin l, 1 ≤ p.1 ∧ p.1 ≤ p.2.1 ∧ 0 < p.2.2 ∧ p.2.1 ≤ b ∧ p.2.2 ≤ t := fun p hp => by
  obtain ⟨hc, he⟩ := fin_ok (l := l) fun q hq => by have := h.mem q hq; omega
  have hm := hc.asc.mem p hp
  have e1 := asc_cnt hc.asc hp (d := p.2.1) (inT_iff.mpr ⟨hm.2.1, Int.le_refl _⟩)
  rw [he] at e1
  obtain ⟨q, hq, hi⟩ := cnt_mem (l := l) (d := p.2.1) (by omega)
  have e2 := asc_cnt h hq hi
  have := inT_iff.mp hi
  have := hb q hq
  omega
/-- .. of any pieces -/
theorem cnt_le {l : List T} (h : ∀ p ∈ l, 0 ≤ p.2.2) (d : Int) : cnt l d ≤ (l.map (·.2.2)).sum := by
  induction l with
  | nil => exact Int.le_refl _
  | cons p l ih =>
    have := ih fun q hq => h q (List.mem_cons_of_mem _ hq)
    have := h p List.mem_cons_self
    rw [cnt_cons, List.map_cons, List.sum_cons]
    split <;> omega
theorem fin_bound' {l : List T} {b : Int} (h : ∀ p ∈ l, 1 ≤ p.1 ∧ p.1 ≤ p.2.1 ∧ 0 ≤ p.2.2) (hb : ∀ p ∈ l, p.2.1 ≤ b) : ∀ p ∈ fin l, 1 ≤ p.1 ∧ p.1 ≤ p.2.1 ∧ 0 < p.2.2 ∧ p.2.1 ≤ b ∧ p.2.2 ≤ (l.map (·.2.2)).sum := fun p hp => by
  obtain ⟨hc, he⟩ := fin_ok (l := l) h
  have hm := hc.asc.mem p hp
  have e1 := asc_cnt hc.asc hp (d := p.2.1) (inT_iff.mpr ⟨hm.2.1, Int.le_refl _⟩)
  rw [he] at e1
  obtain ⟨q, hq, hi⟩ := cnt_mem (l := l) (d := p.2.1) (by omega)
  have := cnt_le (fun q hq => (h q hq).2.2) p.2.1
  have := inT_iff.mp hi
  have := hb q hq
  omega
/-- corners, from any list with the same counts -/
theorem corners_eq {l J : List T} (hl : ∀ p ∈ l, 1 ≤ p.1 ∧ p.1 ≤ p.2.1) (hJ : Canon 1 J) (he : ∀ d, cnt J d = cnt l d) : DL.setSort (ends J) = (DL.setSort (ends l)).filter fun x => !decide (cnt l x = cnt l (x + 1)) := by
  refine DL.strict_uniq (DL.setSort_sorted _) ((DL.setSort_sorted _).filter _) fun x => ?_
  rw [DL.setSort_mem, List.mem_filter, DL.setSort_mem]
  simp only [Bool.not_eq_true', decide_eq_false_iff_not]
  constructor
  · intro hx
    have h1 := end_change (Int.le_refl 1) hJ x hx
    rw [he, he] at h1
    exact ⟨change_end (fun p hp => (hl p hp).1) h1.1 h1.2, h1.2⟩
  · rintro ⟨hx, hc⟩
    have h1 : 1 ≤ x := by
      obtain ⟨p, hp, hx⟩ := mem_ends.mp hx
      have := hl p hp
      omega
    exact change_end (fun p hp => (hJ.asc.mem p hp).1) h1 (by rw [he, he]; exact hc)
/-! all distances, one by one -/
def reps (p : T) : List Int := (List.range (p.2.1 - p.1 + 1).toNat).flatMap fun i => List.replicate p.2.2.toNat (p.1 + (i : Nat))
def every (l : List T) : List Int := l.flatMap reps
theorem count_rng (a x : Int) (t n : Nat) : ((List.range n).flatMap fun i => List.replicate t (a + (i : Nat))).count x = if a ≤ x ∧ x < a + n then t else 0 := by
  induction n with
  | zero =>
    rw [if_neg (by omega)]
    rfl
  | succ n ih =>
    rw [List.range_succ, List.flatMap_append, List.count_append, ih, List.flatMap_singleton, List.count_replicate]
    simp only [beq_iff_eq]
    by_cases h1 : a + (n : Int) = x
    · rw [if_neg (by omega), if_pos h1, if_pos (by omega)]
      omega
    · rw [if_neg h1]
      by_cases h2 : a ≤ x ∧ x < a + n
      · rw [if_pos h2, if_pos (by omega)]
        rfl
      · rw [if_neg h2, if_neg (by omega)]
theorem count_every {l : List T} (h : ∀ p ∈ l, 0 ≤ p.2.2 ∧ p.1 ≤ p.2.1) (x : Int) : ((every l).count x : Int) = cnt l x := by
  induction l with
  | nil => rfl
  | cons p l ih =>
    have ih := ih fun q hq => h q (List.mem_cons_of_mem _ hq)
    have hp := h p List.mem_cons_self
    have e : every (p :: l) = reps p ++ every l := rfl
    rw [e, List.count_append, cnt_cons, ← ih]
    unfold reps
    rw [count_rng]
    by_cases hi : inT p x = true
    · have := inT_iff.mp hi
      rw [if_pos hi, if_pos (by omega)]
      omega
    · have : ¬ (p.1 ≤ x ∧ x ≤ p.2.1) := fun z => hi (inT_iff.mpr z)
      rw [if_neg hi, if_neg (by omega)]
      omega
theorem filter_rng (a s : Int) (t n : Nat) : (((List.range n).flatMap fun i => List.replicate t (a + (i : Nat))).filter fun x => decide (x > s)).length = t * (mx 0 (a + n - 1 - mx (a - 1) s)).toNat := by
  induction n with
  | zero =>
    have : (mx 0 (a + (0 : Nat) - 1 - mx (a - 1) s)).toNat = 0 := by unfold mx; split <;> split <;> omega
    rw [this]
    rfl
  | succ n ih =>
    rw [List.range_succ, List.flatMap_append, List.filter_append, List.length_append, ih, List.flatMap_singleton, List.filter_replicate]
    by_cases h1 : a + (n : Int) > s
    · rw [if_pos (by simpa using h1), List.length_replicate]
      have : (mx 0 (a + (n + 1 : Nat) - 1 - mx (a - 1) s)).toNat = (mx 0 (a + n - 1 - mx (a - 1) s)).toNat + 1 := by unfold mx; split <;> split <;> split <;> omega
      rw [this, Nat.mul_add, Nat.mul_one]
    · rw [if_neg (by simpa using h1)]
      have : (mx 0 (a + (n + 1 : Nat) - 1 - mx (a - 1) s)).toNat = (mx 0 (a + n - 1 - mx (a - 1) s)).toNat := by unfold mx; split <;> split <;> split <;> omega
      rw [this]
      rfl
theorem filter_every {l : List T} (h : ∀ p ∈ l, 0 ≤ p.2.2 ∧ p.1 ≤ p.2.1) (s : Int) : (((every l).filter fun x => decide (x > s)).length : Int) = byd l s := by
  induction l with
  | nil => rfl
  | cons p l ih =>
    have ih := ih fun q hq => h q (List.mem_cons_of_mem _ hq)
    have hp := h p List.mem_cons_self
    have e : every (p :: l) = reps p ++ every l := rfl
    rw [e, List.filter_append, List.length_append, byd_cons, ← ih]
    unfold reps
    rw [filter_rng]
    have e1 : p.1 + ((p.2.1 - p.1 + 1).toNat : Int) - 1 = p.2.1 := by omega
    rw [e1, Int.natCast_add, Int.natCast_mul]
    have e2 : ((p.2.2.toNat : Nat) : Int) = p.2.2 := by omega
    have e3 : (((mx 0 (p.2.1 - mx (p.1 - 1) s)).toNat : Nat) : Int) = mx 0 (p.2.1 - mx (p.1 - 1) s) := by unfold mx; split <;> omega
    rw [e2, e3]
theorem mem_every {l : List T} (h : ∀ p ∈ l, 0 ≤ p.2.2 ∧ p.1 ≤ p.2.1) {x : Int} : x ∈ every l ↔ cnt l x ≠ 0 := by
  rw [← count_every h, ← List.count_pos_iff]
  omega
theorem len_every {l : List T} (h : ∀ p ∈ l, 0 ≤ p.2.2 ∧ 1 ≤ p.1 ∧ p.1 ≤ p.2.1) : ((every l).length : Int) = byd l 0 := by
  have : (every l).filter (fun x => decide (x > 0)) = every l := by
    rw [List.filter_eq_self]
    intro x hx
    obtain ⟨p, hp, hx⟩ := List.mem_flatMap.mp hx
    obtain ⟨i, hi, hx⟩ := List.mem_flatMap.mp hx
    have := (List.mem_replicate.mp hx).2
    have := h p hp
    exact decide_eq_true (by omega)
  rw [← filter_every (fun p hp => by have := h p hp; omega) 0, this]
end MP
end
section
set_option maxHeartbeats 4000000
/-! MBoth: two profiles' pieces swept together; pieces multiplied. -/
namespace MP
/-- multiplied -/
def sc (t : Int) (J : List T) : List T := if t > 0 then J.map fun p => (p.1, p.2.1, t * p.2.2) else []
theorem cnt_sc {t : Int} (ht : 0 ≤ t) (J : List T) (d : Int) : cnt (sc t J) d = t * cnt J d := by
  unfold sc
  by_cases h : t > 0
  · rw [if_pos h]
    clear ht h
    induction J with
    | nil => simp [cnt]
    | cons p J ih =>
      rw [List.map_cons, cnt_cons, cnt_cons, ih, Int.mul_add]
      congr 1
      have e : inT (p.1, p.2.1, t * p.2.2) d = inT p d := rfl
      rw [e]
      split <;> simp
  · have e : t = 0 := by omega
    rw [if_neg h, e]
    simp [cnt]
theorem canon_map {t : Int} (ht : 0 < t) : ∀ {lo : Int} {J : List T}, Canon lo J → Canon lo (J.map fun p => (p.1, p.2.1, t * p.2.2))
  | _, [], _ => trivial
  | _, r :: l, h => ⟨h.1, h.2.1, Int.mul_pos ht h.2.2.1, fun s hs e => by
      cases l with
      | nil => simp at hs
      | cons s' l =>
        simp only [List.map_cons, List.head?_cons, Option.some.injEq] at hs
        subst hs
        exact fun q => h.2.2.2.1 s' rfl e (Int.eq_of_mul_eq_mul_left (by omega) q), canon_map ht h.2.2.2.2⟩
theorem canon_sc {t lo : Int} {J : List T} (h : Canon lo J) : Canon lo (sc t J) := by
  unfold sc
  split
  · rename_i ht; exact canon_map ht h
  · trivial
theorem len_sc {t : Int} {J : List T} : (sc t J).length ≤ J.length := by
  unfold sc
  split
  · simp
  · simp
theorem canon_snoc : ∀ {lo : Int} {l : List T} {p : T}, Canon lo l → (∀ q ∈ l, q.2.1 < p.1) → lo ≤ p.1 → p.1 ≤ p.2.1 → 0 < p.2.2 → (∀ s, l.getLast? = some s → p.1 = s.2.1 + 1 → p.2.2 ≠ s.2.2) → Canon lo (l ++ [p])
  | _, [], p, _, _, h1, h2, h3, _ => ⟨h1, h2, h3, fun s e => by simp at e, trivial⟩
  | _, [r], p, h, hq, h1, h2, h3, h4 => ⟨h.1, h.2.1, h.2.2.1, fun s e es => by
      have e : some p = some s := e
      cases e
      exact h4 r rfl es, by have := hq r List.mem_cons_self; omega, h2, h3, fun s e => by simp at e, trivial⟩
  | _, r :: s :: l, p, h, hq, h1, h2, h3, h4 => ⟨h.1, h.2.1, h.2.2.1, h.2.2.2.1, canon_snoc (l := s :: l) h.2.2.2.2 (fun q hq' => hq q (List.mem_cons_of_mem _ hq')) (by have := hq r List.mem_cons_self; omega) h2 h3 fun z hz => h4 z (by rw [List.getLast?_cons_cons]; exact hz)⟩
theorem canon_ext : ∀ {lo : Int} {l : List T} {a e e' o : Int}, Canon lo (l ++ [(a, e, o)]) → e ≤ e' → Canon lo (l ++ [(a, e', o)])
  | _, [], a, e, e', o, h, he => ⟨h.1, Int.le_trans h.2.1 he, h.2.2.1, fun s q => by simp at q, trivial⟩
  | _, [r], a, e, e', o, h, he => ⟨h.1, h.2.1, h.2.2.1, fun s q es => by
      have q : some (a, e', o) = some s := q
      cases q
      exact h.2.2.2.1 (a, e, o) rfl es, canon_ext (l := []) h.2.2.2.2 he⟩
  | _, r :: s :: l, a, e, e', o, h, he => ⟨h.1, h.2.1, h.2.2.1, h.2.2.2.1, canon_ext (l := s :: l) h.2.2.2.2 he⟩
theorem cnt_one (p : T) (d : Int) : cnt [p] d = if inT p d = true then p.2.2 else 0 := by rw [cnt_cons, cnt_nil, Int.add_zero]
/-- what stands so far -/
structure Inv (f : Int → Int) (R : List T) (b : Int) : Prop where
  can : Canon 1 R
  end_ : ∀ p ∈ R, p.2.1 < b
  cnt_ : ∀ d, d < b → cnt R d = f d
theorem Inv.over {f : Int → Int} {R : List T} {b d : Int} (h : Inv f R b) (hd : b ≤ d) : cnt R d = 0 := by
  refine Classical.byContradiction fun z => ?_
  obtain ⟨p, hp, hi⟩ := cnt_mem z
  have := h.end_ p hp
  have := inT_iff.mp hi
  omega
theorem Inv.skip {f : Int → Int} {R : List T} {lo hi : Int} (h : Inv f R lo) (hl : lo < hi) (hc : ∀ d, lo ≤ d → d < hi → f d = f lo) (h0 : f lo = 0) : Inv f R hi :=
  ⟨h.can, fun p hp => by have := h.end_ p hp; omega, fun d hd => by
    by_cases q : d < lo
    · exact h.cnt_ d q
    · rw [h.over (by omega), hc d (by omega) hd, h0]⟩
theorem Inv.app {f : Int → Int} {R : List T} {lo hi : Int} (h : Inv f R lo) (h1 : 1 ≤ lo) (hl : lo < hi) (hc : ∀ d, lo ≤ d → d < hi → f d = f lo) (h0 : 0 < f lo) (hn : ∀ s, R.getLast? = some s → s.2.1 = lo - 1 → s.2.2 ≠ f lo) : Inv f (R ++ [(lo, hi - 1, f lo)]) hi :=
  ⟨canon_snoc h.can h.end_ h1 (by show lo ≤ hi - 1; omega) h0 fun s hs e q => hn s hs (by simp only at e; omega) q.symm, fun p hp => by
    rcases List.mem_append.mp hp with q | q
    · have := h.end_ p q; omega
    · rw [List.mem_singleton] at q
      subst q
      show hi - 1 < hi
      omega, fun d hd => by
    rw [cnt_app, cnt_one]
    by_cases q : d < lo
    · rw [h.cnt_ d q, if_neg (fun z => by have := inT_iff.mp z; simp only at this; omega), Int.add_zero]
    · rw [h.over (by omega), if_pos (inT_iff.mpr ⟨by show lo ≤ d; omega, by show d ≤ hi - 1; omega⟩), hc d (by omega) hd]
      simp⟩
theorem Inv.ext {f : Int → Int} {R : List T} {a lo hi : Int} (h : Inv f (R ++ [(a, lo - 1, f lo)]) lo) (hl : lo < hi) (hc : ∀ d, lo ≤ d → d < hi → f d = f lo) : Inv f (R ++ [(a, hi - 1, f lo)]) hi :=
  ⟨canon_ext h.can (by omega), fun p hp => by
    rcases List.mem_append.mp hp with q | q
    · have := h.end_ p (List.mem_append_left _ q); omega
    · rw [List.mem_singleton] at q
      subst q
      show hi - 1 < hi
      omega, fun d hd => by
    have ha := (h.can.asc.mem (a, lo - 1, f lo) (by simp)).2.1
    simp only at ha
    have hR : lo ≤ d → cnt R d = 0 := fun q => Classical.byContradiction fun z => by
      obtain ⟨p, hp, hi⟩ := cnt_mem z
      have := h.end_ p (List.mem_append_left _ hp)
      have := inT_iff.mp hi
      omega
    rw [cnt_app, cnt_one]
    by_cases q : d < lo
    · have e := h.cnt_ d q
      rw [cnt_app, cnt_one] at e
      rw [← e]
      congr 1
      by_cases z : a ≤ d
      · rw [if_pos (inT_iff.mpr ⟨z, by show d ≤ hi - 1; omega⟩), if_pos (inT_iff.mpr ⟨z, by show d ≤ lo - 1; omega⟩)]
      · rw [if_neg (fun y => z (inT_iff.mp y).1), if_neg (fun y => z (inT_iff.mp y).1)]
    · rw [hR (by omega), if_pos (inT_iff.mpr ⟨by show a ≤ d; omega, by show d ≤ hi - 1; omega⟩), hc d (by omega) hd]
      simp⟩
def bgs (l : List T) : List Int := DL.setSort (l.map (·.1) ++ l.map fun p => p.2.1 + 1)
theorem mem_bgs {l : List T} {x : Int} : x ∈ bgs l ↔ ∃ p ∈ l, p.1 = x ∨ p.2.1 + 1 = x := by
  unfold bgs
  rw [DL.setSort_mem, List.mem_append, List.mem_map, List.mem_map]
  constructor
  · rintro (⟨p, h, e⟩ | ⟨p, h, e⟩)
    · exact ⟨p, h, .inl e⟩
    · exact ⟨p, h, .inr e⟩
  · rintro ⟨p, h, e | e⟩
    · exact .inl ⟨p, h, e⟩
    · exact .inr ⟨p, h, e⟩
theorem bgs_const {l : List T} (h : ∀ p ∈ l, 1 ≤ p.1) {A C : List Int} {lo hi : Int} (e : bgs l = A ++ lo :: hi :: C) (h1 : 1 ≤ lo) : lo < hi ∧ ∀ d, lo ≤ d → d < hi → cnt l d = cnt l lo := by
  have hs : (A ++ lo :: hi :: C).Pairwise (· < ·) := e ▸ DL.setSort_sorted _
  have hs2 := (List.pairwise_append.mp hs)
  have hlt : lo < hi := (List.pairwise_cons.mp hs2.2.1).1 hi List.mem_cons_self
  refine ⟨hlt, ?_⟩
  have key : ∀ n : Nat, lo + n < hi → cnt l (lo + n) = cnt l lo := by
    intro n
    induction n with
    | zero => intro _; simp
    | succ n ih =>
      intro hn
      rw [← ih (by omega)]
      refine Classical.byContradiction fun z => ?_
      have hx : lo + n ∈ ends l := change_end h (by omega) fun q => z (by rw [q]; congr 1; omega)
      obtain ⟨p, hp, hq⟩ := mem_ends.mp hx
      have hb : lo + n + 1 ∈ bgs l := mem_bgs.mpr ⟨p, hp, by omega⟩
      rw [e] at hb
      rcases List.mem_append.mp hb with q | q
      · have := hs2.2.2 _ q lo List.mem_cons_self
        omega
      · rcases List.mem_cons.mp q with q | q
        · omega
        · have q2 := (List.pairwise_cons.mp hs2.2.1).2
          rcases List.mem_cons.mp q with q | q
          · omega
          · have := (List.pairwise_cons.mp q2).1 _ q
            omega
  intro d h1 h2
  have := key (d - lo).toNat (by omega)
  rwa [show lo + ((d - lo).toNat : Int) = d by omega] at this
theorem bgs_start {l : List T} (h : ∀ p ∈ l, 1 ≤ p.1 ∧ p.1 ≤ p.2.1) {C : List Int} {b : Int} (e : bgs l = b :: C) : 1 ≤ b ∧ Inv (cnt l) [] b := by
  have hs : (b :: C).Pairwise (· < ·) := e ▸ DL.setSort_sorted _
  have hle : ∀ x ∈ bgs l, b ≤ x := fun x hx => by
    rw [e] at hx
    rcases List.mem_cons.mp hx with q | q
    · omega
    · have := (List.pairwise_cons.mp hs).1 x q; omega
  constructor
  · obtain ⟨p, hp, q⟩ := mem_bgs.mp (show b ∈ bgs l by rw [e]; exact List.mem_cons_self)
    have := h p hp
    omega
  · refine ⟨trivial, fun p hp => by simp at hp, fun d hd => ?_⟩
    refine Classical.byContradiction fun z => ?_
    obtain ⟨p, hp, hi⟩ := cnt_mem (l := l) (d := d) fun q => z q.symm
    have := hle p.1 (mem_bgs.mpr ⟨p, hp, .inl rfl⟩)
    have := inT_iff.mp hi
    omega
theorem bgs_end {l : List T} {A : List Int} {b : Int} {R : List T} (e : bgs l = A ++ [b]) (h : Inv (cnt l) R b) : ∀ d, cnt R d = cnt l d := fun d => by
  have hs : (A ++ [b]).Pairwise (· < ·) := e ▸ DL.setSort_sorted _
  by_cases hd : d < b
  · exact h.cnt_ d hd
  · rw [h.over (by omega)]
    refine Classical.byContradiction fun z => ?_
    obtain ⟨p, hp, hi⟩ := cnt_mem (l := l) (d := d) fun q => z q.symm
    have hb : p.2.1 + 1 ∈ bgs l := mem_bgs.mpr ⟨p, hp, .inr rfl⟩
    rw [e] at hb
    have := inT_iff.mp hi
    rcases List.mem_append.mp hb with q | q
    · have := (List.pairwise_append.mp hs).2.2 _ q b List.mem_cons_self
      omega
    · rw [List.mem_singleton] at q
      omega
theorem bgs_nil {l : List T} (e : bgs l = []) : l = [] := by
  cases l with
  | nil => rfl
  | cons p l =>
    have := (mem_bgs (l := p :: l) (x := p.1)).mpr ⟨p, List.mem_cons_self, .inl rfl⟩
    rw [e] at this
    simp at this
/-- two canonical lists of the same numbers -/
theorem canon_fin {l R : List T} (h : ∀ p ∈ l, 1 ≤ p.1 ∧ p.1 ≤ p.2.1 ∧ 0 ≤ p.2.2) (hR : Canon 1 R) (e : ∀ d, cnt R d = cnt l d) : R = fin l :=
  canon_uniq hR (fin_ok h).1 fun d => by rw [e, (fin_ok h).2]
end MP
end
section
set_option maxHeartbeats 4000000
namespace K15
open PySem PySem.Spec L2 DL
open PyProof.Rows hiding St
/-! ### the text -/
def top (i : Nat) : Stmt := PySem.Challenge.pw_scanmisses_k15_profiles_added_and_multip.main.body.getD i (.Pass ⟨0, 0, 0, 0⟩)
abbrev s_is_int : Stmt := top 7
abbrev s_in_range : Stmt := top 8
abbrev s_is_piece : Stmt := top 13
abbrev s_are_pieces : Stmt := top 14
abbrev s_joined_pieces : Stmt := top 15
abbrev s_Profile___init__ : Stmt := inClass (top 17) 0
abbrev s_profile_from : Stmt := top 18
abbrev s_Profile___add__ : Stmt := inClass (top 17) 8
abbrev s_require_number : Stmt := top 10
abbrev s_multiplied : Stmt := top 16
abbrev s_Profile___mul__ : Stmt := inClass (top 17) 9
abbrev s__law_pond : Stmt := top 20
abbrev s__law_dip : Stmt := top 21
abbrev s__law_given : Stmt := top 22
abbrev s__law_many : Stmt := top 23
abbrev s_Profile_cold : Stmt := inClass (top 17) 1
abbrev s_Profile_pieces : Stmt := inClass (top 17) 2
abbrev s__law_shown : Stmt := top 26
abbrev s_Profile___eq__ : Stmt := inClass (top 17) 10
abbrev s__law_often : Stmt := top 24
abbrev s__law_both : Stmt := top 25
abbrev s__law_right : Stmt := top 27
abbrev s_law : Stmt := top 28
abbrev N_is_int : List Str := ["value"]
theorem sc_is_int : FnScope N_is_int ["value"] (defScope s_is_int) := ⟨rfl, rfl, rfl, by decide +kernel, rfl, by decide +kernel, by decide +kernel⟩
def d_is_int : DefQ := ⟨fun K => He.ga K "is_int", "is_int", "is_int", defArgs s_is_int, defBody s_is_int, defScope s_is_int⟩
abbrev N_in_range : List Str := ["value", "low", "high"]
theorem sc_in_range : FnScope N_in_range ["value", "low", "high"] (defScope s_in_range) := ⟨rfl, rfl, rfl, by decide +kernel, rfl, by decide +kernel, by decide +kernel⟩
def d_in_range : DefQ := ⟨fun K => He.ga K "in_range", "in_range", "in_range", defArgs s_in_range, defBody s_in_range, defScope s_in_range⟩
abbrev N_is_piece : List Str := ["value"]
theorem sc_is_piece : FnScope N_is_piece ["value"] (defScope s_is_piece) := ⟨rfl, rfl, rfl, by decide +kernel, rfl, by decide +kernel, by decide +kernel⟩
def d_is_piece : DefQ := ⟨fun K => He.ga K "is_piece", "is_piece", "is_piece", defArgs s_is_piece, defBody s_is_piece, defScope s_is_piece⟩
abbrev N_are_pieces : List Str := ["value", "one", "other", "piece"]
theorem sc_are_pieces : FnScope N_are_pieces ["value"] (defScope s_are_pieces) := ⟨rfl, rfl, rfl, by decide +kernel, rfl, by decide +kernel, by decide +kernel⟩
def d_are_pieces : DefQ := ⟨fun K => He.ga K "are_pieces", "are_pieces", "are_pieces", defArgs s_are_pieces, defBody s_are_pieces, defScope s_are_pieces⟩
abbrev N_joined_pieces : List Str := ["pieces", "events", "rows", "often", "begin", "place", "change", "starts", "ends", "joined", "spot", "start", "end", "piece", "low", "high", "times"]
theorem sc_joined_pieces : FnScope N_joined_pieces ["pieces"] (defScope s_joined_pieces) := ⟨rfl, rfl, rfl, by decide +kernel, rfl, by decide +kernel, by decide +kernel⟩
def d_joined_pieces : DefQ := ⟨fun K => He.ga K "joined_pieces", "joined_pieces", "joined_pieces", defArgs s_joined_pieces, defBody s_joined_pieces, defScope s_joined_pieces⟩
abbrev N_Profile___init__ : List Str := ["self", "cold", "pieces"]
theorem sc_Profile___init__ : FnScope N_Profile___init__ ["self", "cold", "pieces"] (defScope s_Profile___init__) := ⟨rfl, rfl, rfl, by decide +kernel, rfl, by decide +kernel, by decide +kernel⟩
def d_Profile___init__ : DefQ := ⟨fun K => He.ma K (He.ga K "Profile") "__init__", "__init__", "Profile.__init__", defArgs s_Profile___init__, defBody s_Profile___init__, defScope s_Profile___init__⟩
abbrev N_profile_from : List Str := ["cold", "pieces"]
theorem sc_profile_from : FnScope N_profile_from ["cold", "pieces"] (defScope s_profile_from) := ⟨rfl, rfl, rfl, by decide +kernel, rfl, by decide +kernel, by decide +kernel⟩
def d_profile_from : DefQ := ⟨fun K => He.ga K "profile_from", "profile_from", "profile_from", defArgs s_profile_from, defBody s_profile_from, defScope s_profile_from⟩
abbrev N_Profile___add__ : List Str := ["self", "other"]
theorem sc_Profile___add__ : FnScope N_Profile___add__ ["self", "other"] (defScope s_Profile___add__) := ⟨rfl, rfl, rfl, by decide +kernel, rfl, by decide +kernel, by decide +kernel⟩
def d_Profile___add__ : DefQ := ⟨fun K => He.ma K (He.ga K "Profile") "__add__", "__add__", "Profile.__add__", defArgs s_Profile___add__, defBody s_Profile___add__, defScope s_Profile___add__⟩
abbrev N_require_number : List Str := ["value", "low", "high"]
theorem sc_require_number : FnScope N_require_number ["value", "low", "high"] (defScope s_require_number) := ⟨rfl, rfl, rfl, by decide +kernel, rfl, by decide +kernel, by decide +kernel⟩
def d_require_number : DefQ := ⟨fun K => He.ga K "require_number", "require_number", "require_number", defArgs s_require_number, defBody s_require_number, defScope s_require_number⟩
abbrev N_multiplied : List Str := ["pieces", "times", "low", "high", "number"]
theorem sc_multiplied : FnScope N_multiplied ["pieces", "times"] (defScope s_multiplied) := ⟨rfl, rfl, rfl, by decide +kernel, rfl, by decide +kernel, by decide +kernel⟩
def d_multiplied : DefQ := ⟨fun K => He.ga K "multiplied", "multiplied", "multiplied", defArgs s_multiplied, defBody s_multiplied, defScope s_multiplied⟩
abbrev N_Profile___mul__ : List Str := ["self", "times"]
theorem sc_Profile___mul__ : FnScope N_Profile___mul__ ["self", "times"] (defScope s_Profile___mul__) := ⟨rfl, rfl, rfl, by decide +kernel, rfl, by decide +kernel, by decide +kernel⟩
def d_Profile___mul__ : DefQ := ⟨fun K => He.ma K (He.ga K "Profile") "__mul__", "__mul__", "Profile.__mul__", defArgs s_Profile___mul__, defBody s_Profile___mul__, defScope s_Profile___mul__⟩
abbrev N__law_pond : List Str := ["script", "k", "cell"]
theorem sc__law_pond : FnScope N__law_pond ["script", "k"] (defScope s__law_pond) := ⟨rfl, rfl, rfl, by decide +kernel, rfl, by decide +kernel, by decide +kernel⟩
def d__law_pond : DefQ := ⟨fun K => He.ga K "_law_pond", "_law_pond", "_law_pond", defArgs s__law_pond, defBody s__law_pond, defScope s__law_pond⟩
abbrev N__law_dip : List Str := ["pond", "many", "drawn", "mixed"]
theorem sc__law_dip : FnScope N__law_dip ["pond", "many"] (defScope s__law_dip) := ⟨rfl, rfl, rfl, by decide +kernel, rfl, by decide +kernel, by decide +kernel⟩
def d__law_dip : DefQ := ⟨fun K => He.ga K "_law_dip", "_law_dip", "_law_dip", defArgs s__law_dip, defBody s__law_dip, defScope s__law_dip⟩
abbrev N__law_given : List Str := ["pond", "wide", "found", "last", "turn", "low"]
theorem sc__law_given : FnScope N__law_given ["pond", "wide"] (defScope s__law_given) := ⟨rfl, rfl, rfl, by decide +kernel, rfl, by decide +kernel, by decide +kernel⟩
def d__law_given : DefQ := ⟨fun K => He.ga K "_law_given", "_law_given", "_law_given", defArgs s__law_given, defBody s__law_given, defScope s__law_given⟩
abbrev N__law_many : List Str := ["pond", "many", "found", "last", "often", "turn", "low"]
theorem sc__law_many : FnScope N__law_many ["pond", "many"] (defScope s__law_many) := ⟨rfl, rfl, rfl, by decide +kernel, rfl, by decide +kernel, by decide +kernel⟩
def d__law_many : DefQ := ⟨fun K => He.ga K "_law_many", "_law_many", "_law_many", defArgs s__law_many, defBody s__law_many, defScope s__law_many⟩
abbrev N_Profile_cold : List Str := ["self"]
theorem sc_Profile_cold : FnScope N_Profile_cold ["self"] (defScope s_Profile_cold) := ⟨rfl, rfl, rfl, by decide +kernel, rfl, by decide +kernel, by decide +kernel⟩
def d_Profile_cold : DefQ := ⟨fun K => prG K ⟨"Profile", "cold"⟩, "cold", "Profile.cold", defArgs s_Profile_cold, defBody s_Profile_cold, defScope s_Profile_cold⟩
abbrev N_Profile_pieces : List Str := ["self"]
theorem sc_Profile_pieces : FnScope N_Profile_pieces ["self"] (defScope s_Profile_pieces) := ⟨rfl, rfl, rfl, by decide +kernel, rfl, by decide +kernel, by decide +kernel⟩
def d_Profile_pieces : DefQ := ⟨fun K => prG K ⟨"Profile", "pieces"⟩, "pieces", "Profile.pieces", defArgs s_Profile_pieces, defBody s_Profile_pieces, defScope s_Profile_pieces⟩
abbrev N__law_shown : List Str := ["made"]
theorem sc__law_shown : FnScope N__law_shown ["made"] (defScope s__law_shown) := ⟨rfl, rfl, rfl, by decide +kernel, rfl, by decide +kernel, by decide +kernel⟩
def d__law_shown : DefQ := ⟨fun K => He.ga K "_law_shown", "_law_shown", "_law_shown", defArgs s__law_shown, defBody s__law_shown, defScope s__law_shown⟩
abbrev N_Profile___eq__ : List Str := ["self", "other"]
theorem sc_Profile___eq__ : FnScope N_Profile___eq__ ["self", "other"] (defScope s_Profile___eq__) := ⟨rfl, rfl, rfl, by decide +kernel, rfl, by decide +kernel, by decide +kernel⟩
def d_Profile___eq__ : DefQ := ⟨fun K => He.ma K (He.ga K "Profile") "__eq__", "__eq__", "Profile.__eq__", defArgs s_Profile___eq__, defBody s_Profile___eq__, defScope s_Profile___eq__⟩
abbrev N__law_often : List Str := ["given", "gap", "low", "high", "often"]
theorem sc__law_often : FnScope N__law_often ["given", "gap"] (defScope s__law_often) := ⟨rfl, rfl, rfl, by decide +kernel, rfl, by decide +kernel, by decide +kernel⟩
def d__law_often : DefQ := ⟨fun K => He.ga K "_law_often", "_law_often", "_law_often", defArgs s__law_often, defBody s__law_often, defScope s__law_often⟩
abbrev N__law_both : List Str := ["given", "other", "begins", "found", "low", "later", "often", "high"]
theorem sc__law_both : FnScope N__law_both ["given", "other"] (defScope s__law_both) := ⟨rfl, rfl, rfl, by decide +kernel, rfl, by decide +kernel, by decide +kernel⟩
def d__law_both : DefQ := ⟨fun K => He.ga K "_law_both", "_law_both", "_law_both", defArgs s__law_both, defBody s__law_both, defScope s__law_both⟩
abbrev N__law_right : List Str := ["pond", "cold", "given", "other", "wide", "less", "one", "two", "kept", "both", "many", "some", "low", "high", "often", "wall"]
theorem sc__law_right : FnScope N__law_right ["pond", "cold", "given", "other", "wide"] (defScope s__law_right) := ⟨rfl, rfl, rfl, by decide +kernel, rfl, by decide +kernel, by decide +kernel⟩
def d__law_right : DefQ := ⟨fun K => He.ga K "_law_right", "_law_right", "_law_right", defArgs s__law_right, defBody s__law_right, defScope s__law_right⟩
abbrev N_law : List Str := ["script", "k", "pond", "turn", "wide", "given", "other", "one", "two"]
theorem sc_law : FnScope N_law ["script"] (defScope s_law) := ⟨rfl, rfl, rfl, by decide +kernel, rfl, by decide +kernel, by decide +kernel⟩
def d_law : DefQ := ⟨fun K => He.ga K "law", "law", "law", defArgs s_law, defBody s_law, defScope s_law⟩
def fn : List DefQ := [d_is_int, d_in_range, d_is_piece, d_are_pieces, d_joined_pieces, d_Profile___init__, d_profile_from, d_Profile___add__, d_require_number, d_multiplied, d_Profile___mul__, d__law_pond, d__law_dip, d__law_given, d__law_many, d_Profile_cold, d_Profile_pieces, d__law_shown, d_Profile___eq__, d__law_often, d__law_both, d__law_right, d_law]
def fa : List He.Fa := [.cls "Profile", .noat "Profile" "own_cold", .noat "Profile" "own_pieces", .mkr "Profile", .glo "Profile", .glo "is_int", .glo "in_range", .glo "is_piece", .glo "are_pieces", .glo "joined_pieces", .glo "profile_from", .glo "require_number", .glo "multiplied", .glo "_law_pond", .glo "_law_dip", .glo "_law_given", .glo "_law_many", .glo "_law_shown", .glo "_law_often", .glo "_law_both", .glo "_law_right", .glo "law", .free "isinstance", .free "bool", .free "int", .free "len", .free "tuple", .free "all", .free "list", .free "zip", .free "sorted", .free "range", .free "max", .free "repr", .free "sum", .free "set", .free "min", .int "MOST_TIMES" 1000000000000000000000000000000]
def pr : List PrD := [⟨"Profile", "cold"⟩, ⟨"Profile", "pieces"⟩]
def op : List OpD := [⟨"Profile", "__eq__"⟩]
def bn : List BnD := [⟨"Profile", .Add⟩, ⟨"Profile", .Mult⟩]
def xf : List XF := [.isi "Profile" [("Profile", true)], .ins "Profile"]
def tab_Profile : List (Nat × Bool) := [(0, true)]
def CN (c : Nat) : Str := (["Profile"] : List Str).getD c ""
def NMf (c : Nat) : List Str := ([["own_cold", "own_pieces"]] : List (List Str)).getD c []
abbrev TT (K : PySem.W.Frag) : Tab := ⟨fun c => He.ga K (CN c), NMf⟩
/-! ### what each def computes -/
noncomputable def B_is_int : SM :=
  (retS fun ρ => (andE (isiE tabInt (rd ρ 0)) (notE (isiE (tabIs "bool") (rd ρ 0)))))
noncomputable def g_is_int : List D → M D := bodyD 1 B_is_int
noncomputable def B_in_range : SM :=
  (retS fun ρ => (andE (callE 1 g_is_int (consM (rd ρ 0) nilA)) (andE (b2 dLe (rd ρ 1) (rd ρ 0)) (orE (b2 dIs (rd ρ 2) (kon .non)) (b2 dLe (rd ρ 0) (rd ρ 2))))))
noncomputable def g_in_range : List D → M D := bodyD 3 B_in_range
noncomputable def B_is_piece : SM :=
  (seqS (ifS (fun ρ => (orM (notT (valT (isiE (tabIs "tuple") (rd ρ 0)))) (b2T dNe (cbE dLen (consM (rd ρ 0) nilA)) (kon (.int 3))))) (retS fun ρ => (kon (.bl false))) nxS)
    (retS fun ρ => (andE (callE 3 g_in_range (consM (b2 ixD (rd ρ 0) (kon (.int 0))) (consM (kon (.int 1)) (consM (kon .non) nilA)))) (andE (callE 3 g_in_range (consM (b2 ixD (rd ρ 0) (kon (.int 1))) (consM (b2 ixD (rd ρ 0) (kon (.int 0))) (consM (kon .non) nilA)))) (callE 3 g_in_range (consM (b2 ixD (rd ρ 0) (kon (.int 2))) (consM (kon (.int 1)) (consM (kon .non) nilA))))))))
noncomputable def g_is_piece : List D → M D := bodyD 1 B_is_piece
noncomputable def B_are_pieces : SM :=
  (seqS (ifS (fun ρ => (orM (notT (valT (isiE (tabIs "list") (rd ρ 0)))) (notT (valT (cbE dAll (consM (frzE (lcL (itS (rd ρ 0)) (.nm 3) (fun ρ => yesM) (fun ρ => (callE 1 g_is_piece (consM (rd ρ 3) nilA))) ρ [3])) nilA)))))) (retS fun ρ => (kon (.bl false))) nxS)
    (retS fun ρ => (cbE dAll (consM (frzE (lcL (itZ (consM (rd ρ 0) (consM (slE (rd ρ 0) (smO (kon (.int 1))) noO) nilA))) (.tp [(.nm 1), (.nm 2)]) (fun ρ => yesM) (fun ρ => (b2 dLt (b2 ixD (rd ρ 1) (kon (.int 1))) (b2 ixD (rd ρ 2) (kon (.int 0))))) ρ [1, 2])) nilA))))
noncomputable def g_are_pieces : List D → M D := bodyD 4 B_are_pieces
noncomputable def L1_joined_pieces : SM :=
  (seqS (ifS (fun ρ => (b2T dGt (rd ρ 5) (rd ρ 4))) (seqS (expS fun ρ => (mthE "list" mAppend (rd ρ 2) (consM (tupE (consM (rd ρ 4) (consM (b2 dSub (rd ρ 5) (kon (.int 1))) (consM (rd ρ 3) nilA)))) nilA)))
    (setS 4 fun ρ => (rd ρ 5))) nxS)
    (setS 3 fun ρ => (b2 dAdd (rd ρ 3) (rd ρ 6))))
noncomputable def B_joined_pieces : SM :=
  (seqS (setS 1 fun ρ => (b2 dAdd (frzE (lcL (itS (rd ρ 0)) (.tp [(.nm 14), (.nm 15), (.nm 16)]) (fun ρ => yesM) (fun ρ => (tupE (consM (rd ρ 14) (consM (rd ρ 16) nilA)))) ρ [14, 15, 16])) (frzE (lcL (itS (rd ρ 0)) (.tp [(.nm 14), (.nm 15), (.nm 16)]) (fun ρ => yesM) (fun ρ => (tupE (consM (b2 dAdd (rd ρ 15) (kon (.int 1))) (consM (b2 dSub (kon (.int 0)) (rd ρ 16)) nilA)))) ρ [14, 15, 16]))))
    (seqS (setS 1 fun ρ => (frzE (cbL sortD (consM (rd ρ 1) nilA))))
    (seqS (setS 2 fun ρ => (celE (lstE nilA)))
    (seqS (asgD (fun ρ => (tupE (consM (kon (.int 0)) (consM (kon (.int 0)) nilA)))) (.tp [(.nm 3), (.nm 4)]))
    (seqS (forS (fun ρ => (itS (rd ρ 1))) (.tp [(.nm 5), (.nm 6)]) L1_joined_pieces)
    (seqS (setS 7 fun ρ => (frzE (lcL (itR1 (consM (cbE dLen (consM (rd ρ 2) nilA)) nilA)) (.nm 10) (fun ρ => (orM (b2T dEq (rd ρ 10) (kon (.int 0))) (b2T dNe (b2 ixD (b2 ixD (rd ρ 2) (rd ρ 10)) (kon (.int 2))) (b2 ixD (b2 ixD (rd ρ 2) (b2 dSub (rd ρ 10) (kon (.int 1)))) (kon (.int 2)))))) (fun ρ => (rd ρ 10)) ρ [10])))
    (seqS (setS 8 fun ρ => (b2 dAdd (slE (rd ρ 7) (smO (kon (.int 1))) noO) (frzE (lstE (consM (cbE dLen (consM (rd ρ 2) nilA)) nilA)))))
    (seqS (setS 9 fun ρ => (frzE (lcL (itZ (consM (rd ρ 7) (consM (rd ρ 8) nilA))) (.tp [(.nm 11), (.nm 12)]) (fun ρ => yesM) (fun ρ => (tupE (consM (b2 ixD (b2 ixD (rd ρ 2) (rd ρ 11)) (kon (.int 0))) (consM (b2 ixD (b2 ixD (rd ρ 2) (b2 dSub (rd ρ 12) (kon (.int 1)))) (kon (.int 1))) (consM (b2 ixD (b2 ixD (rd ρ 2) (rd ρ 11)) (kon (.int 2))) nilA))))) ρ [11, 12])))
    (retS fun ρ => (frzE (lcL (itS (rd ρ 9)) (.nm 13) (fun ρ => (b2T dGt (b2 ixD (rd ρ 13) (kon (.int 2))) (kon (.int 0)))) (fun ρ => (rd ρ 13)) ρ [13])))))))))))
noncomputable def g_joined_pieces : List D → M D := bodyD 17 B_joined_pieces
noncomputable def B_Profile___init__ : SM :=
  (seqS (ifS (fun ρ => (orM (notT (valT (callE 3 g_in_range (consM (rd ρ 1) (consM (kon (.int 0)) (consM (kon .non) nilA)))))) (notT (valT (callE 1 g_are_pieces (consM (rd ρ 2) nilA)))))) stkS nxS)
    (seqS (fldS [0] "own_cold" (fun ρ => (rd ρ 1)) (fun ρ => (rd ρ 0)))
    (fldS [0] "own_pieces" (fun ρ => (cbE dTupleOf (consM (callE 1 g_joined_pieces (consM (rd ρ 2) nilA)) nilA))) (fun ρ => (rd ρ 0)))))
noncomputable def g_Profile___init__ : List D → M D := bodyD 3 B_Profile___init__
noncomputable def B_profile_from : SM :=
  (retS fun ρ => (makeE NMf 0 3 g_Profile___init__ (consM (rd ρ 0) (consM (callE 1 g_joined_pieces (consM (rd ρ 1) nilA)) nilA))))
noncomputable def g_profile_from : List D → M D := bodyD 2 B_profile_from
noncomputable def B_Profile___add__ : SM :=
  (seqS (ifS (fun ρ => (notT (valT (isiCE tab_Profile (rd ρ 1))))) stkS nxS)
    (retS fun ρ => (callE 2 g_profile_from (consM (b2 dAdd (fldM NMf [0] "own_cold" (rd ρ 0)) (fldM NMf [0] "own_cold" (rd ρ 1))) (consM (b2 dAdd (fldM NMf [0] "own_pieces" (rd ρ 0)) (fldM NMf [0] "own_pieces" (rd ρ 1))) nilA)))))
noncomputable def g_Profile___add__ : List D → M D := bodyD 2 B_Profile___add__
noncomputable def B_require_number : SM :=
  (ifS (fun ρ => (notT (valT (callE 3 g_in_range (consM (rd ρ 0) (consM (rd ρ 1) (consM (rd ρ 2) nilA))))))) stkS nxS)
noncomputable def g_require_number : List D → M D := bodyD 3 B_require_number
noncomputable def B_multiplied : SM :=
  (retS fun ρ => (celE (lcL (itS (rd ρ 0)) (.tp [(.nm 2), (.nm 3), (.nm 4)]) (fun ρ => (b2T dGt (rd ρ 1) (kon (.int 0)))) (fun ρ => (tupE (consM (rd ρ 2) (consM (rd ρ 3) (consM (b2 dMul (rd ρ 1) (rd ρ 4)) nilA))))) ρ [2, 3, 4])))
noncomputable def g_multiplied : List D → M (List D) := bodyL 5 B_multiplied
noncomputable def B_Profile___mul__ : SM :=
  (seqS (expS fun ρ => (callE 3 g_require_number (consM (rd ρ 1) (consM (kon (.int 0)) (consM (kon (.int 1000000000000000000000000000000)) nilA)))))
    (retS fun ρ => (callE 2 g_profile_from (consM (b2 dMul (fldM NMf [0] "own_cold" (rd ρ 0)) (rd ρ 1)) (consM (frzE (callL 2 g_multiplied (consM (fldM NMf [0] "own_pieces" (rd ρ 0)) (consM (rd ρ 1) nilA)))) nilA)))))
noncomputable def g_Profile___mul__ : List D → M D := bodyD 2 B_Profile___mul__
noncomputable def B__law_pond : SM :=
  (seqS (setS 2 fun ρ => (kon (.int 0)))
    (seqS (ifS (fun ρ => (b2T dLt (rd ρ 1) (cbE dLen (consM (rd ρ 0) nilA)))) (setS 2 fun ρ => (b2 ixD (rd ρ 0) (rd ρ 1))) nxS)
    (retS fun ρ => (celE (lstE (consM (cbE dMax2 (consM (kon (.int 0)) (consM (b2 dSub (rd ρ 2) (b2 dPow (kon (.int 10)) (kon (.int 18)))) nilA))) (consM (b2 dAdd (b2 dAdd (b2 dMul (b2 dMod (cbE dInt (consM (rd ρ 2) nilA)) (b2 dAdd (b2 dPow (kon (.int 10)) (kon (.int 38))) (kon (.int 133)))) (kon (.int 61))) (b2 dMul (kon (.int 179424673)) (rd ρ 1))) (kon (.int 19))) (consM (kon (.int 0)) nilA))))))))
noncomputable def g__law_pond : List D → M (List D) := bodyL 3 B__law_pond
noncomputable def B__law_dip : SM :=
  (seqS (ifS (fun ρ => (b2T dGt (b2 ixD (rd ρ 0) (kon (.int 0))) (kon (.int 0)))) (seqS (setS 2 fun ρ => (b2 dMod (cbE dInt (consM (b2 ixD (rd ρ 0) (kon (.int 0))) nilA)) (rd ρ 1)))
    (seqS (stoS (fun ρ => (b2 dDiv (b2 ixD (rd ρ 0) (kon (.int 0))) (rd ρ 1))) (fun ρ => (rd ρ 0)) fun ρ => (kon (.int 0)))
    (retS fun ρ => (rd ρ 2)))) nxS)
    (seqS (stoS (fun ρ => (b2 dAdd (b2 ixD (rd ρ 0) (kon (.int 2))) (kon (.int 1)))) (fun ρ => (rd ρ 0)) fun ρ => (kon (.int 2)))
    (seqS (setS 3 fun ρ => (b2 dMod (cbE dInt (consM (b2 dPow (b2 dAdd (b2 ixD (rd ρ 0) (kon (.int 1))) (b2 dMul (kon (.int 86028157)) (b2 ixD (rd ρ 0) (kon (.int 2))))) (kon (.int 3))) nilA)) (b2 dAdd (b2 dPow (kon (.int 10)) (kon (.int 42))) (kon (.int 63)))))
    (seqS (setS 3 fun ρ => (b2 dMod (cbE dInt (consM (b2 dPow (b2 dAdd (rd ρ 3) (b2 dMul (kon (.int 67867979)) (b2 ixD (rd ρ 0) (kon (.int 2))))) (kon (.int 3))) nilA)) (b2 dAdd (b2 dPow (kon (.int 10)) (kon (.int 44))) (kon (.int 57)))))
    (retS fun ρ => (b2 dMod (cbE dInt (consM (b2 dDiv (rd ρ 3) (kon (.int 655373))) nilA)) (rd ρ 1)))))))
noncomputable def g__law_dip : List D → M D := bodyD 4 B__law_dip
noncomputable def L1__law_given : SM :=
  (seqS (setS 5 fun ρ => (b2 dAdd (b2 dAdd (rd ρ 3) (kon (.int 1))) (b2 ixD (frzE (lstE (consM (kon (.int 0)) (consM (kon (.int 0)) (consM (callE 2 g__law_dip (consM (rd ρ 0) (consM (rd ρ 1) nilA))) nilA))))) (callE 2 g__law_dip (consM (rd ρ 0) (consM (kon (.int 3)) nilA))))))
    (seqS (setS 3 fun ρ => (b2 dAdd (rd ρ 5) (b2 ixD (frzE (lstE (consM (kon (.int 0)) (consM (callE 2 g__law_dip (consM (rd ρ 0) (consM (kon (.int 3)) nilA))) (consM (callE 2 g__law_dip (consM (rd ρ 0) (consM (rd ρ 1) nilA))) nilA))))) (callE 2 g__law_dip (consM (rd ρ 0) (consM (kon (.int 3)) nilA))))))
    (expS fun ρ => (mthE "list" mAppend (rd ρ 2) (consM (tupE (consM (rd ρ 5) (consM (rd ρ 3) (consM (b2 ixD (frzE (lstE (consM (kon (.int 1)) (consM (kon (.int 2)) (consM (b2 dAdd (kon (.int 1)) (callE 2 g__law_dip (consM (rd ρ 0) (consM (rd ρ 1) nilA)))) nilA))))) (callE 2 g__law_dip (consM (rd ρ 0) (consM (kon (.int 3)) nilA)))) nilA)))) nilA)))))
noncomputable def B__law_given : SM :=
  (seqS (parS 2 3 fun ρ => (consM (celE (lstE nilA)) (consM (kon (.int 0)) nilA)))
    (seqS (forS (fun ρ => (itR1 (consM (callE 2 g__law_dip (consM (rd ρ 0) (consM (kon (.int 7)) nilA))) nilA))) (.nm 4) L1__law_given)
    (retS fun ρ => (rd ρ 2))))
noncomputable def g__law_given : List D → M (List D) := bodyL 6 B__law_given
noncomputable def L1__law_many : SM :=
  (seqS (ifS (fun ρ => (b2T dEq (callE 2 g__law_dip (consM (rd ρ 0) (consM (kon (.int 5)) nilA))) (kon (.int 0)))) (parS 3 4 fun ρ => (consM (b2 dAdd (rd ρ 3) (callE 2 g__law_dip (consM (rd ρ 0) (consM (kon (.int 3)) nilA)))) (consM (b2 dAdd (kon (.int 1)) (callE 2 g__law_dip (consM (rd ρ 0) (consM (kon (.int 3)) nilA)))) nilA))) nxS)
    (seqS (setS 6 fun ρ => (b2 dAdd (rd ρ 3) (kon (.int 1))))
    (seqS (setS 3 fun ρ => (b2 dAdd (rd ρ 6) (callE 2 g__law_dip (consM (rd ρ 0) (consM (kon (.int 3)) nilA)))))
    (expS fun ρ => (mthE "list" mAppend (rd ρ 2) (consM (tupE (consM (rd ρ 6) (consM (rd ρ 3) (consM (rd ρ 4) nilA)))) nilA))))))
noncomputable def B__law_many : SM :=
  (seqS (par3S 2 3 4 fun ρ => (consM (celE (lstE nilA)) (consM (kon (.int 0)) (consM (kon (.int 1)) nilA))))
    (seqS (forS (fun ρ => (itR1 (consM (rd ρ 1) nilA))) (.nm 5) L1__law_many)
    (retS fun ρ => (rd ρ 2))))
noncomputable def g__law_many : List D → M (List D) := bodyL 7 B__law_many
noncomputable def B_Profile_cold : SM :=
  (retS fun ρ => (fldM NMf [0] "own_cold" (rd ρ 0)))
noncomputable def g_Profile_cold : List D → M D := bodyD 1 B_Profile_cold
noncomputable def B_Profile_pieces : SM :=
  (retS fun ρ => (celE (cbL dListOf (consM (fldM NMf [0] "own_pieces" (rd ρ 0)) nilA))))
noncomputable def g_Profile_pieces : List D → M (List D) := bodyL 1 B_Profile_pieces
noncomputable def B__law_shown : SM :=
  (retS fun ρ => (cbE reprD (consM (frzE (lstE (consM (mt0E NMf 0 "cold" 1 g_Profile_cold (rd ρ 0)) (consM (frzE (mt0L NMf 0 "pieces" 1 g_Profile_pieces (rd ρ 0))) nilA)))) nilA)))
noncomputable def g__law_shown : List D → M D := bodyD 1 B__law_shown
noncomputable def B_Profile___eq__ : SM :=
  (seqS (ifS (fun ρ => (notT (valT (isiCE tab_Profile (rd ρ 1))))) (retS fun ρ => (kon (.bl false))) nxS)
    (retS fun ρ => (andE (b2 dEq (fldM NMf [0] "own_cold" (rd ρ 0)) (fldM NMf [0] "own_cold" (rd ρ 1))) (b2 dEq (fldM NMf [0] "own_pieces" (rd ρ 0)) (fldM NMf [0] "own_pieces" (rd ρ 1))))))
noncomputable def g_Profile___eq__ : List D → M D := bodyD 2 B_Profile___eq__
noncomputable def B__law_often : SM :=
  (retS fun ρ => (cbE dSum (consM (frzE (lcL (itS (rd ρ 0)) (.tp [(.nm 2), (.nm 3), (.nm 4)]) (fun ρ => (chT dLe dLe (rd ρ 2) (rd ρ 1) (rd ρ 3))) (fun ρ => (rd ρ 4)) ρ [2, 3, 4])) nilA)))
noncomputable def g__law_often : List D → M D := bodyD 5 B__law_often
noncomputable def L1__law_both : SM :=
  (seqS (setS 6 fun ρ => (b2 dAdd (callE 2 g__law_often (consM (rd ρ 0) (consM (rd ρ 4) nilA))) (callE 2 g__law_often (consM (rd ρ 1) (consM (rd ρ 4) nilA)))))
    (ifS (fun ρ => (andM (b2T dGt (rd ρ 6) (kon (.int 0))) (andM (b2T dNe (rd ρ 3) (frzE (lstE nilA))) (andM (b2T dEq (b2 ixD (b2 ixD (rd ρ 3) (b1 dNeg (kon (.int 1)))) (kon (.int 1))) (b2 dSub (rd ρ 4) (kon (.int 1)))) (b2T dEq (b2 ixD (b2 ixD (rd ρ 3) (b1 dNeg (kon (.int 1)))) (kon (.int 2))) (rd ρ 6)))))) (stoS (fun ρ => (tupE (consM (b2 ixD (b2 ixD (rd ρ 3) (b1 dNeg (kon (.int 1)))) (kon (.int 0))) (consM (b2 dSub (rd ρ 5) (kon (.int 1))) (consM (rd ρ 6) nilA))))) (fun ρ => (rd ρ 3)) fun ρ => (b1 dNeg (kon (.int 1)))) (ifS (fun ρ => (b2T dGt (rd ρ 6) (kon (.int 0)))) (expS fun ρ => (mthE "list" mAppend (rd ρ 3) (consM (tupE (consM (rd ρ 4) (consM (b2 dSub (rd ρ 5) (kon (.int 1))) (consM (rd ρ 6) nilA)))) nilA))) nxS)))
noncomputable def B__law_both : SM :=
  (seqS (setS 2 fun ρ => (b2 dAdd (frzE (lcL (itS (b2 dAdd (rd ρ 0) (rd ρ 1))) (.tp [(.nm 4), (.nm 7), (.nm 6)]) (fun ρ => yesM) (fun ρ => (rd ρ 4)) ρ [4, 7, 6])) (frzE (lcL (itS (b2 dAdd (rd ρ 0) (rd ρ 1))) (.tp [(.nm 4), (.nm 7), (.nm 6)]) (fun ρ => yesM) (fun ρ => (b2 dAdd (rd ρ 7) (kon (.int 1)))) ρ [4, 7, 6]))))
    (seqS (parS 2 3 fun ρ => (consM (frzE (setsL (rd ρ 2))) (consM (celE (lstE nilA)) nilA)))
    (seqS (forS (fun ρ => (itZ (consM (rd ρ 2) (consM (slE (rd ρ 2) (smO (kon (.int 1))) noO) nilA)))) (.tp [(.nm 4), (.nm 5)]) L1__law_both)
    (retS fun ρ => (rd ρ 3)))))
noncomputable def g__law_both : List D → M D := bodyD 8 B__law_both
noncomputable def L1__law_right : SM :=
  (seqS (setS 11 fun ρ => (frzE (lcL (itS (rd ρ 2)) (.tp [(.nm 12), (.nm 13), (.nm 14)]) (fun ρ => (b2T dGt (rd ρ 10) (kon (.int 0)))) (fun ρ => (tupE (consM (rd ρ 12) (consM (rd ρ 13) (consM (b2 dMul (rd ρ 10) (rd ρ 14)) nilA))))) ρ [12, 13, 14])))
    (ifS (fun ρ => (b2T dNe (callE 1 g__law_shown (consM (b2M (binOwn 0 g_Profile___mul__) (rd ρ 6) (rd ρ 10)) nilA)) (cbE reprD (consM (frzE (lstE (consM (b2 dMul (rd ρ 10) (rd ρ 1)) (consM (callE 2 g__law_both (consM (rd ρ 11) (consM (frzE (lstE nilA)) nilA))) nilA)))) nilA)))) (retS fun ρ => (kon (.bl false))) nxS))
noncomputable def B__law_right : SM :=
  (seqS (setS 5 fun ρ => (callE 2 g__law_dip (consM (rd ρ 0) (consM (rd ρ 4) nilA))))
    (seqS (parS 6 7 fun ρ => (consM (makeE NMf 0 3 g_Profile___init__ (consM (rd ρ 1) (consM (rd ρ 2) nilA))) (consM (makeE NMf 0 3 g_Profile___init__ (consM (rd ρ 5) (consM (rd ρ 3) nilA))) nilA)))
    (seqS (setS 8 fun ρ => (frzE (lstE (consM (callE 1 g__law_shown (consM (rd ρ 6) nilA)) (consM (callE 1 g__law_shown (consM (rd ρ 7) nilA)) nilA)))))
    (seqS (setS 9 fun ρ => (b2M (binOwn 0 g_Profile___add__) (rd ρ 6) (rd ρ 7)))
    (seqS (ifS (fun ρ => (orM (notT (valT (isiCE tab_Profile (rd ρ 9)))) (b2T dNe (callE 1 g__law_shown (consM (rd ρ 9) nilA)) (cbE reprD (consM (frzE (lstE (consM (b2 dAdd (rd ρ 1) (rd ρ 5)) (consM (callE 2 g__law_both (consM (rd ρ 2) (consM (rd ρ 3) nilA))) nilA)))) nilA))))) (retS fun ρ => (kon (.bl false))) nxS)
    (seqS (ifS (fun ρ => (orM (notT (b2MT (eqOwn 0 g_Profile___eq__) (b2M (binOwn 0 g_Profile___add__) (rd ρ 7) (rd ρ 6)) (rd ρ 9))) (b2T dNe (callE 1 g__law_shown (consM (b2M (binOwn 0 g_Profile___add__) (rd ρ 6) (rd ρ 6)) nilA)) (callE 1 g__law_shown (consM (b2M (binOwn 0 g_Profile___mul__) (rd ρ 6) (kon (.int 2))) nilA))))) (retS fun ρ => (kon (.bl false))) nxS)
    (seqS (forS (fun ρ => (itS (frzE (lstE (consM (kon (.int 0)) (consM (kon (.int 1)) (consM (kon (.int 2)) (consM (callE 2 g__law_dip (consM (rd ρ 0) (consM (b2 dPow (kon (.int 10)) (kon (.int 30))) nilA))) (consM (b2 dPow (kon (.int 10)) (kon (.int 30))) nilA))))))))) (.nm 10) L1__law_right)
    (seqS (setS 10 fun ρ => (b2 ixD (frzE (lstE (consM (callE 2 g__law_dip (consM (rd ρ 0) (consM (kon (.int 9)) nilA))) (consM (callE 2 g__law_dip (consM (rd ρ 0) (consM (b2 dPow (kon (.int 10)) (kon (.int 29))) nilA))) nilA)))) (callE 2 g__law_dip (consM (rd ρ 0) (consM (kon (.int 2)) nilA)))))
    (seqS (ifS (fun ρ => (orM (notT (b2MT (eqOwn 0 g_Profile___eq__) (b2M (binOwn 0 g_Profile___add__) (b2M (binOwn 0 g_Profile___mul__) (rd ρ 6) (rd ρ 10)) (b2M (binOwn 0 g_Profile___mul__) (rd ρ 6) (kon (.int 7)))) (b2M (binOwn 0 g_Profile___mul__) (rd ρ 6) (b2 dAdd (rd ρ 10) (kon (.int 7)))))) (notT (b2MT (eqOwn 0 g_Profile___eq__) (b2M (binOwn 0 g_Profile___mul__) (rd ρ 9) (rd ρ 10)) (b2M (binOwn 0 g_Profile___add__) (b2M (binOwn 0 g_Profile___mul__) (rd ρ 6) (rd ρ 10)) (b2M (binOwn 0 g_Profile___mul__) (rd ρ 7) (rd ρ 10))))))) (retS fun ρ => (kon (.bl false))) nxS)
    (seqS (ifS (fun ρ => (orM (notT (b2MT (eqOwn 0 g_Profile___eq__) (b2M (binOwn 0 g_Profile___add__) (b2M (binOwn 0 g_Profile___add__) (rd ρ 6) (rd ρ 7)) (rd ρ 6)) (b2M (binOwn 0 g_Profile___add__) (rd ρ 6) (b2M (binOwn 0 g_Profile___add__) (rd ρ 7) (rd ρ 6))))) (notT (b2MT (eqOwn 0 g_Profile___eq__) (b2M (binOwn 0 g_Profile___add__) (rd ρ 6) (makeE NMf 0 3 g_Profile___init__ (consM (kon (.int 0)) (consM (frzE (lstE nilA)) nilA)))) (rd ρ 6))))) (retS fun ρ => (kon (.bl false))) nxS)
    (seqS (ifS (fun ρ => (b2T dNe (rd ρ 2) (frzE (lstE nilA)))) (seqS (asgD (fun ρ => (b2 ixD (rd ρ 2) (callE 2 g__law_dip (consM (rd ρ 0) (consM (cbE dLen (consM (rd ρ 2) nilA)) nilA))))) (.tp [(.nm 12), (.nm 13), (.nm 14)]))
    (seqS (setS 15 fun ρ => (makeE NMf 0 3 g_Profile___init__ (consM (kon (.int 0)) (consM (frzE (lstE (consM (tupE (consM (b2 dAdd (rd ρ 13) (kon (.int 1))) (consM (b2 dAdd (b2 dAdd (rd ρ 13) (kon (.int 1))) (callE 2 g__law_dip (consM (rd ρ 0) (consM (kon (.int 3)) nilA)))) (consM (rd ρ 14) nilA)))) nilA))) nilA))))
    (ifS (fun ρ => (b2T dNe (callE 1 g__law_shown (consM (b2M (binOwn 0 g_Profile___add__) (rd ρ 6) (rd ρ 15)) nilA)) (cbE reprD (consM (frzE (lstE (consM (rd ρ 1) (consM (callE 2 g__law_both (consM (rd ρ 2) (consM (frzE (mt0L NMf 0 "pieces" 1 g_Profile_pieces (rd ρ 15))) nilA))) nilA)))) nilA)))) (retS fun ρ => (kon (.bl false))) nxS))) nxS)
    (retS fun ρ => (b2 dEq (frzE (lstE (consM (callE 1 g__law_shown (consM (rd ρ 6) nilA)) (consM (callE 1 g__law_shown (consM (rd ρ 7) nilA)) nilA)))) (rd ρ 8))))))))))))))
noncomputable def g__law_right : List D → M D := bodyD 16 B__law_right
noncomputable def L1_law : SM :=
  (seqS (setS 4 fun ρ => (b2 ixD (frzE (lstE (consM (kon (.int 5)) (consM (b2 dPow (kon (.int 10)) (kon (.int 30))) nilA)))) (b2 dMod (rd ρ 3) (kon (.int 2)))))
    (seqS (parS 5 6 fun ρ => (consM (frzE (callL 2 g__law_given (consM (rd ρ 2) (consM (rd ρ 4) nilA)))) (consM (frzE (callL 2 g__law_given (consM (rd ρ 2) (consM (rd ρ 4) nilA)))) nilA)))
    (ifS (fun ρ => (notT (valT (callE 5 g__law_right (consM (rd ρ 2) (consM (callE 2 g__law_dip (consM (rd ρ 2) (consM (rd ρ 4) nilA))) (consM (rd ρ 5) (consM (rd ρ 6) (consM (rd ρ 4) nilA))))))))) (retS fun ρ => (kon (.bl false))) nxS)))
noncomputable def L2_law : SM :=
  (seqS (setS 2 fun ρ => (celE (callL 2 g__law_pond (consM (rd ρ 0) (consM (rd ρ 1) nilA)))))
    (seqS (forS (fun ρ => (itR1 (consM (kon (.int 4)) nilA))) (.nm 3) L1_law)
    (ifS (fun ρ => (andM (b2T dEq (rd ρ 1) (kon (.int 0))) (notT (valT (callE 5 g__law_right (consM (rd ρ 2) (consM (kon (.int 3)) (consM (frzE (callL 2 g__law_many (consM (rd ρ 2) (consM (kon (.int 40)) nilA)))) (consM (frzE (callL 2 g__law_many (consM (rd ρ 2) (consM (kon (.int 40)) nilA)))) (consM (kon (.int 9)) nilA)))))))))) (retS fun ρ => (kon (.bl false))) nxS)))
noncomputable def B_law : SM :=
  (seqS (forS (fun ρ => (itR1 (consM (cbE dMax2 (consM (kon (.int 1)) (consM (cbE dMin2 (consM (kon (.int 6)) (consM (cbE dLen (consM (rd ρ 0) nilA)) nilA))) nilA))) nilA))) (.nm 1) L2_law)
    (seqS (parS 7 8 fun ρ => (consM (makeE NMf 0 3 g_Profile___init__ (consM (kon (.int 1)) (consM (frzE (lstE (consM (tupE (consM (kon (.int 1)) (consM (kon (.int 2)) (consM (kon (.int 3)) nilA)))) (consM (tupE (consM (kon (.int 5)) (consM (kon (.int 5)) (consM (kon (.int 1)) nilA)))) nilA)))) nilA))) (consM (makeE NMf 0 3 g_Profile___init__ (consM (kon (.int 2)) (consM (frzE (lstE (consM (tupE (consM (kon (.int 3)) (consM (kon (.int 4)) (consM (kon (.int 3)) nilA)))) (consM (tupE (consM (kon (.int 5)) (consM (kon (.int 5)) (consM (kon (.int 2)) nilA)))) nilA)))) nilA))) nilA)))
    (retS fun ρ => (andE (b2 dEq (callE 1 g__law_shown (consM (b2M (binOwn 0 g_Profile___add__) (rd ρ 7) (rd ρ 8)) nilA)) (kon (.str "[3, [(1, 5, 3)]]"))) (b2 dEq (callE 1 g__law_shown (consM (b2M (binOwn 0 g_Profile___mul__) (rd ρ 8) (kon (.int 0))) nilA)) (kon (.str "[0, []]")))))))
noncomputable def g_law : List D → M D := bodyD 9 B_law
/-! ### .. and that it does -/
section
variable {P : Program} {w : World} {K : PySem.W.Frag} {mg : Str → Option Value} {base h : Heap}
theorem fr_isinstance (X : K.In h) (G : h.Ns mainGlobals mg) (c : SaysW fa pr op bn xf fn K) : mg "isinstance" = none := He.free_ok X G (c.fact 22 (f := .free "isinstance") rfl)
theorem fr_bool (X : K.In h) (G : h.Ns mainGlobals mg) (c : SaysW fa pr op bn xf fn K) : mg "bool" = none := He.free_ok X G (c.fact 23 (f := .free "bool") rfl)
theorem fr_int (X : K.In h) (G : h.Ns mainGlobals mg) (c : SaysW fa pr op bn xf fn K) : mg "int" = none := He.free_ok X G (c.fact 24 (f := .free "int") rfl)
theorem fr_len (X : K.In h) (G : h.Ns mainGlobals mg) (c : SaysW fa pr op bn xf fn K) : mg "len" = none := He.free_ok X G (c.fact 25 (f := .free "len") rfl)
theorem fr_tuple (X : K.In h) (G : h.Ns mainGlobals mg) (c : SaysW fa pr op bn xf fn K) : mg "tuple" = none := He.free_ok X G (c.fact 26 (f := .free "tuple") rfl)
theorem fr_all (X : K.In h) (G : h.Ns mainGlobals mg) (c : SaysW fa pr op bn xf fn K) : mg "all" = none := He.free_ok X G (c.fact 27 (f := .free "all") rfl)
theorem fr_list (X : K.In h) (G : h.Ns mainGlobals mg) (c : SaysW fa pr op bn xf fn K) : mg "list" = none := He.free_ok X G (c.fact 28 (f := .free "list") rfl)
theorem fr_zip (X : K.In h) (G : h.Ns mainGlobals mg) (c : SaysW fa pr op bn xf fn K) : mg "zip" = none := He.free_ok X G (c.fact 29 (f := .free "zip") rfl)
theorem fr_sorted (X : K.In h) (G : h.Ns mainGlobals mg) (c : SaysW fa pr op bn xf fn K) : mg "sorted" = none := He.free_ok X G (c.fact 30 (f := .free "sorted") rfl)
theorem fr_range (X : K.In h) (G : h.Ns mainGlobals mg) (c : SaysW fa pr op bn xf fn K) : mg "range" = none := He.free_ok X G (c.fact 31 (f := .free "range") rfl)
theorem fr_max (X : K.In h) (G : h.Ns mainGlobals mg) (c : SaysW fa pr op bn xf fn K) : mg "max" = none := He.free_ok X G (c.fact 32 (f := .free "max") rfl)
theorem fr_repr (X : K.In h) (G : h.Ns mainGlobals mg) (c : SaysW fa pr op bn xf fn K) : mg "repr" = none := He.free_ok X G (c.fact 33 (f := .free "repr") rfl)
theorem fr_sum (X : K.In h) (G : h.Ns mainGlobals mg) (c : SaysW fa pr op bn xf fn K) : mg "sum" = none := He.free_ok X G (c.fact 34 (f := .free "sum") rfl)
theorem fr_set (X : K.In h) (G : h.Ns mainGlobals mg) (c : SaysW fa pr op bn xf fn K) : mg "set" = none := He.free_ok X G (c.fact 35 (f := .free "set") rfl)
theorem fr_min (X : K.In h) (G : h.Ns mainGlobals mg) (c : SaysW fa pr op bn xf fn K) : mg "min" = none := He.free_ok X G (c.fact 36 (f := .free "min") rfl)
theorem bnA_Profile_Add (c : SaysW fa pr op bn xf fn K) : BinF K ((TT K).C 0) (He.ma K (He.ga K "Profile") "__add__") .Add := (show PySem.dunder (Operator.info .Add).2 = "__add__" from by decide +kernel) ▸ c.bin 0 (p := ⟨"Profile", .Add⟩) rfl
theorem bnA_Profile_Mult (c : SaysW fa pr op bn xf fn K) : BinF K ((TT K).C 0) (He.ma K (He.ga K "Profile") "__mul__") .Mult := (show PySem.dunder (Operator.info .Mult).2 = "__mul__" from by decide +kernel) ▸ c.bin 1 (p := ⟨"Profile", .Mult⟩) rfl
theorem gi_MOST_TIMES {Xc : Cx} {EE : XX} {pos : Pos} {T : Tab} (X : Xc.K.In h) (G : h.Ns mainGlobals Xc.mg) (c : SaysW fa pr op bn xf fn Xc.K) (hg : Gl Xc "MOST_TIMES") : EvE Xc T EE (.Name "MOST_TIMES" pos) (fun _ => kon (.int 1000000000000000000000000000000)) := by
  obtain ⟨t, e⟩ := He.int_ok X G (c.fact 37 (f := .int "MOST_TIMES" 1000000000000000000000000000000) rfl)
  exact ev_gint hg e ⟨t, rfl⟩
theorem fld_own_cold (c : SaysW fa pr op bn xf fn K) : ∀ i ∈ ([0] : List Nat), Cls K ((TT K).C i) ∧ NoAttr K ((TT K).C i) "own_cold" := by
  intro i hi
  simp only [List.mem_cons, List.not_mem_nil, or_false] at hi
  rcases hi with rfl
  · exact ⟨He.cls_ok (c.fact 0 rfl), He.noat_ok (c.fact 1 rfl)⟩
theorem fld_own_pieces (c : SaysW fa pr op bn xf fn K) : ∀ i ∈ ([0] : List Nat), Cls K ((TT K).C i) ∧ NoAttr K ((TT K).C i) "own_pieces" := by
  intro i hi
  simp only [List.mem_cons, List.not_mem_nil, or_false] at hi
  rcases hi with rfl
  · exact ⟨He.cls_ok (c.fact 0 rfl), He.noat_ok (c.fact 2 rfl)⟩
theorem isi1_Profile (c : SaysW fa pr op bn xf fn K) : ∀ n ∈ tyNames, PySem.W.kitOne K (.type n) (.ref (He.ga K "Profile")) = some false := (isi_ok (c.more 0 (p := .isi "Profile" [("Profile", true)]) rfl)).1
theorem isi2_Profile (c : SaysW fa pr op bn xf fn K) : ∀ q ∈ tab_Profile, PySem.W.kitOne K (.ref ((TT K).C q.1)) (.ref (He.ga K "Profile")) = some q.2 := by
  intro q hq
  unfold tab_Profile at hq
  simp only [List.mem_cons, List.not_mem_nil, or_false] at hq
  have h := (isi_ok (c.more 0 (p := .isi "Profile" [("Profile", true)]) rfl)).2
  rcases hq with rfl
  · exact h ("Profile", true) (by simp)
theorem isi3_Profile (c : SaysW fa pr op bn xf fn K) : ∀ q ∈ tab_Profile, InsT K ((TT K).C q.1) := by
  intro q hq
  unfold tab_Profile at hq
  simp only [List.mem_cons, List.not_mem_nil, or_false] at hq
  rcases hq with rfl
  · exact ins_ok (He.cls_ok (c.fact 0 rfl)) (c.more 1 (p := .ins "Profile") rfl)
theorem ok_is_int (X : K.In h) (G : h.Ns mainGlobals mg) (c : SaysW fa pr op bn xf fn K) : FnB P w K mg base 1 "is_int" ["value"] (spD K (TT K) 1 g_is_int) :=
  fnB (c.def_ 0 (d := d_is_int) rfl) (He.glo_ok X G (c.fact 5 (f := .glo "is_int") rfl)) (fun fd F => FunD.bindsN F fun _ _ _ _ _ _ us hl => match us, hl with | [_], _ => rfl) fun fd F =>
    fn_D F sc_is_int fun cdv A outer s H E hr nr =>
    (es_one (es_ret (ev_and (ev_isi tabInt hk_int (by rfl) (fr_isinstance X G c) boot_isinstance (ev_var 0 rfl (.inl rfl)) (by rfl) (fr_int X G c) boot_int) (ev_one (ev_not (ev_isi (tabIs "bool") hk_bool (by rfl) (fr_isinstance X G c) boot_isinstance (ev_var 0 rfl (.inl rfl)) (by rfl) (fr_bool X G c) boot_bool))))))
theorem ok_in_range (X : K.In h) (G : h.Ns mainGlobals mg) (c : SaysW fa pr op bn xf fn K) : FnB P w K mg base 2 "in_range" ["value", "low", "high"] (spD K (TT K) 3 g_in_range) :=
  fnB (c.def_ 1 (d := d_in_range) rfl) (He.glo_ok X G (c.fact 6 (f := .glo "in_range") rfl)) (fun fd F => FunD.bindsN F fun _ _ _ _ _ _ us hl => match us, hl with | [_, _, _], _ => rfl) fun fd F =>
    fn_D F sc_in_range fun cdv A outer s H E hr nr =>
    (es_one (es_ret (ev_and (ev_callB (ok_is_int X G c) hr (by decide) nr (by rfl) (ea_cons (ev_var 0 rfl (.inl rfl)) ea_nil)) (ev_and (ev_cmp op_dLe rfl (ev_var 1 rfl (.inl rfl)) (ev_var 0 rfl (.inl rfl))) (ev_one (ev_or (ev_cmp op_dIs rfl (ev_var 2 rfl (.inl rfl)) ev_non) (ev_one (ev_cmp op_dLe rfl (ev_var 0 rfl (.inl rfl)) (ev_var 2 rfl (.inl rfl))))))))))
theorem ok_is_piece (X : K.In h) (G : h.Ns mainGlobals mg) (c : SaysW fa pr op bn xf fn K) : FnB P w K mg base 3 "is_piece" ["value"] (spD K (TT K) 1 g_is_piece) :=
  fnB (c.def_ 2 (d := d_is_piece) rfl) (He.glo_ok X G (c.fact 7 (f := .glo "is_piece") rfl)) (fun fd F => FunD.bindsN F fun _ _ _ _ _ _ us hl => match us, hl with | [_], _ => rfl) fun fd F =>
    fn_D F sc_is_piece fun cdv A outer s H E hr nr =>
    (es_cons (es_if (evt_of (evw_or (evt_not (ev_val (ev_isi (tabIs "tuple") hk_tuple (by rfl) (fr_isinstance X G c) boot_isinstance (ev_var 0 rfl (.inl rfl)) (by rfl) (fr_tuple X G c) boot_tuple))) (evw_or1 (ev_cmpT (op_dNe hr.units) rfl (ev_cb cb_len (by rfl) (fr_len X G c) boot_len (ea_cons (ev_var 0 rfl (.inl rfl)) ea_nil)) ev_int)))) (es_one (es_ret ev_bl)) es_nil)
    (es_one (es_ret (ev_and (ev_callB (ok_in_range X G c) hr (by decide) nr (by rfl) (ea_cons (ev_ix (ev_var 0 rfl (.inl rfl)) ev_int (fun _ _ => rfl)) (ea_cons ev_int (ea_cons ev_non ea_nil)))) (ev_and (ev_callB (ok_in_range X G c) hr (by decide) nr (by rfl) (ea_cons (ev_ix (ev_var 0 rfl (.inl rfl)) ev_int (fun _ _ => rfl)) (ea_cons (ev_ix (ev_var 0 rfl (.inl rfl)) ev_int (fun _ _ => rfl)) (ea_cons ev_non ea_nil)))) (ev_one (ev_callB (ok_in_range X G c) hr (by decide) nr (by rfl) (ea_cons (ev_ix (ev_var 0 rfl (.inl rfl)) ev_int (fun _ _ => rfl)) (ea_cons ev_int (ea_cons ev_non ea_nil))))))))))
theorem ok_are_pieces (X : K.In h) (G : h.Ns mainGlobals mg) (c : SaysW fa pr op bn xf fn K) : FnB P w K mg base 4 "are_pieces" ["value"] (spD K (TT K) 1 g_are_pieces) :=
  fnB (c.def_ 3 (d := d_are_pieces) rfl) (He.glo_ok X G (c.fact 8 (f := .glo "are_pieces") rfl)) (fun fd F => FunD.bindsN F fun _ _ _ _ _ _ us hl => match us, hl with | [_], _ => rfl) fun fd F =>
    fn_D F sc_are_pieces fun cdv A outer s H E hr nr =>
    (es_cons (es_if (evt_of (evw_or (evt_not (ev_val (ev_isi (tabIs "list") hk_list (by rfl) (fr_isinstance X G c) boot_isinstance (ev_var 0 rfl (.inl rfl)) (by rfl) (fr_list X G c) boot_list))) (evw_or1 (evt_not (ev_val (ev_cb (cb_all rfl) (by rfl) (fr_all X G c) boot_all (ea_cons (ev_frz (evL_lc (own := [("piece", 3)]) rfl sc_are_pieces.nd (ei_seq (ev_var 0 rfl (.inl rfl))) (blkOk_by (N := N_are_pieces) (sc := (defScope s_are_pieces)) (own := [("piece", 3)]) (by decide +kernel)) (fun _ _ _ _ _ => (eg_name 3 sc_are_pieces.nd rfl (.inl rfl))) (fun _ _ _ _ _ => ets_nil) (fun _ _ _ _ _ => (ev_callB (ok_is_piece X G c) hr (by decide) nr (by rfl) (ea_cons (ev_var 3 rfl (.inl rfl)) ea_nil))))) ea_nil))))))) (es_one (es_ret ev_bl)) es_nil)
    (es_one (es_ret (ev_cb (cb_all rfl) (by rfl) (fr_all X G c) boot_all (ea_cons (ev_frz (evL_lc (own := [("one", 1), ("other", 2)]) rfl sc_are_pieces.nd (ei_zip (by rfl) (fr_zip X G c) (ea_cons (ev_var 0 rfl (.inl rfl)) (ea_cons (ev_slice (ev_var 0 rfl (.inl rfl)) (eo_some ev_int) eo_none) ea_nil))) (blkOk_by (N := N_are_pieces) (sc := (defScope s_are_pieces)) (own := [("one", 1), ("other", 2)]) (by decide +kernel)) (fun _ _ _ _ _ => (eg_tup rfl (egs_cons (eg_name 1 sc_are_pieces.nd rfl (.inl rfl)) (egs_cons (eg_name 2 sc_are_pieces.nd rfl (.inl rfl)) egs_nil)))) (fun _ _ _ _ _ => ets_nil) (fun _ _ _ _ _ => (ev_cmp op_dLt rfl (ev_ix (ev_var 1 rfl (.inl rfl)) ev_int (fun _ _ => rfl)) (ev_ix (ev_var 2 rfl (.inl rfl)) ev_int (fun _ _ => rfl)))))) ea_nil)))))
theorem ok_joined_pieces (X : K.In h) (G : h.Ns mainGlobals mg) (c : SaysW fa pr op bn xf fn K) : FnB P w K mg base 1 "joined_pieces" ["pieces"] (spD K (TT K) 1 g_joined_pieces) :=
  fnB (c.def_ 4 (d := d_joined_pieces) rfl) (He.glo_ok X G (c.fact 9 (f := .glo "joined_pieces") rfl)) (fun fd F => FunD.bindsN F fun _ _ _ _ _ _ us hl => match us, hl with | [_], _ => rfl) fun fd F =>
    fn_D F sc_joined_pieces fun cdv A outer s H E hr nr =>
    (es_cons (es_set (i := 1) sc_joined_pieces.nd rfl (.inl rfl) (ev_bin op_dAdd (ev_frz (evL_lc (own := [("low", 14), ("high", 15), ("times", 16)]) rfl sc_joined_pieces.nd (ei_seq (ev_var 0 rfl (.inl rfl))) (blkOk_by (N := N_joined_pieces) (sc := (defScope s_joined_pieces)) (own := [("low", 14), ("high", 15), ("times", 16)]) (by decide +kernel)) (fun _ _ _ _ _ => (eg_tup rfl (egs_cons (eg_name 14 sc_joined_pieces.nd rfl (.inl rfl)) (egs_cons (eg_name 15 sc_joined_pieces.nd rfl (.inl rfl)) (egs_cons (eg_name 16 sc_joined_pieces.nd rfl (.inl rfl)) egs_nil))))) (fun _ _ _ _ _ => ets_nil) (fun _ _ _ _ _ => (ev_tup (ea_cons (ev_var 14 rfl (.inl rfl)) (ea_cons (ev_var 16 rfl (.inl rfl)) ea_nil)))))) (ev_frz (evL_lc (own := [("low", 14), ("high", 15), ("times", 16)]) rfl sc_joined_pieces.nd (ei_seq (ev_var 0 rfl (.inl rfl))) (blkOk_by (N := N_joined_pieces) (sc := (defScope s_joined_pieces)) (own := [("low", 14), ("high", 15), ("times", 16)]) (by decide +kernel)) (fun _ _ _ _ _ => (eg_tup rfl (egs_cons (eg_name 14 sc_joined_pieces.nd rfl (.inl rfl)) (egs_cons (eg_name 15 sc_joined_pieces.nd rfl (.inl rfl)) (egs_cons (eg_name 16 sc_joined_pieces.nd rfl (.inl rfl)) egs_nil))))) (fun _ _ _ _ _ => ets_nil) (fun _ _ _ _ _ => (ev_tup (ea_cons (ev_bin op_dAdd (ev_var 15 rfl (.inl rfl)) ev_int) (ea_cons (ev_bin op_dSub ev_int (ev_var 16 rfl (.inl rfl))) ea_nil))))))))
    (es_cons (es_set (i := 1) sc_joined_pieces.nd rfl (.inl rfl) (ev_frz (evL_cb cb_sorted (by rfl) (fr_sorted X G c) boot_sorted (ea_cons (ev_var 1 rfl (.inl rfl)) ea_nil))))
    (es_cons (es_set (i := 2) sc_joined_pieces.nd rfl (.inr rfl) (ev_cell (evL_lst ea_nil)))
    (es_cons (es_asg (ev_tup (ea_cons ev_int (ea_cons ev_int ea_nil))) (eg_tup rfl (egs_cons (eg_name 3 sc_joined_pieces.nd rfl (.inl rfl)) (egs_cons (eg_name 4 sc_joined_pieces.nd rfl (.inl rfl)) egs_nil))))
    (es_cons (es_for PassesOwn.never rfl (ei_seq (ev_var 1 rfl (.inl rfl))) (eg_tup rfl (egs_cons (eg_name 5 sc_joined_pieces.nd rfl (.inl rfl)) (egs_cons (eg_name 6 sc_joined_pieces.nd rfl (.inl rfl)) egs_nil))) (es_cons (es_if (ev_cmpT op_dGt rfl (ev_var 5 rfl (.inl rfl)) (ev_var 4 rfl (.inl rfl))) (es_cons (es_expr (ev_meth PySem.F.plainAttrs_list PySem.F.slot_list_append PySem.F.type_list_append mt_mAppend (ev_var 2 rfl (.inr (.inl rfl))) (ea_cons (ev_tup (ea_cons (ev_var 4 rfl (.inl rfl)) (ea_cons (ev_bin op_dSub (ev_var 5 rfl (.inl rfl)) ev_int) (ea_cons (ev_var 3 rfl (.inl rfl)) ea_nil)))) ea_nil)))
    (es_one (es_set (i := 4) sc_joined_pieces.nd rfl (.inl rfl) (ev_var 5 rfl (.inl rfl))))) es_nil)
    (es_one (es_set (i := 3) sc_joined_pieces.nd rfl (.inl rfl) (ev_bin op_dAdd (ev_var 3 rfl (.inl rfl)) (ev_var 6 rfl (.inl rfl)))))))
    (es_cons (es_setLc (i := 7) (own := [("spot", 10)]) rfl sc_joined_pieces.nd rfl rfl (sw_true rfl rfl rfl (by decide +kernel)) (ei_range1 (by rfl) (fr_range X G c) (ea_cons (ev_cb cb_len (by rfl) (fr_len X G c) boot_len (ea_cons (ev_var 2 rfl (.inr (.inl rfl))) ea_nil)) ea_nil)) (blkOk_by (N := N_joined_pieces) (sc := (defScope s_joined_pieces)) (own := [("spot", 10)]) (by decide +kernel)) (fun _ _ _ _ _ => (eg_name 10 sc_joined_pieces.nd rfl (.inl rfl))) (fun _ _ _ _ _ => (ets_one (evt_of (evw_or (ev_cmpT (op_dEq hr.units) rfl (ev_var 10 rfl (.inl rfl)) ev_int) (evw_or1 (ev_cmpT (op_dNe hr.units) rfl (ev_ix (ev_ix (ev_var 2 rfl (.inr (.inl rfl))) (ev_var 10 rfl (.inl rfl)) (fun _ _ => rfl)) ev_int (fun _ _ => rfl)) (ev_ix (ev_ix (ev_var 2 rfl (.inr (.inl rfl))) (ev_bin op_dSub (ev_var 10 rfl (.inl rfl)) ev_int) (fun _ _ => rfl)) ev_int (fun _ _ => rfl)))))))) (fun _ _ _ _ _ => (ev_var 10 rfl (.inl rfl))))
    (es_cons (es_set (i := 8) sc_joined_pieces.nd rfl (.inl rfl) (ev_bin op_dAdd (ev_slice (ev_var 7 rfl (.inl rfl)) (eo_some ev_int) eo_none) (ev_frz (evL_lst (ea_cons (ev_cb cb_len (by rfl) (fr_len X G c) boot_len (ea_cons (ev_var 2 rfl (.inr (.inl rfl))) ea_nil)) ea_nil)))))
    (es_cons (es_setLc (i := 9) (own := [("start", 11), ("end", 12)]) rfl sc_joined_pieces.nd rfl rfl (sw_true rfl rfl rfl (by decide +kernel)) (ei_zip (by rfl) (fr_zip X G c) (ea_cons (ev_var 7 rfl (.inl rfl)) (ea_cons (ev_var 8 rfl (.inl rfl)) ea_nil))) (blkOk_by (N := N_joined_pieces) (sc := (defScope s_joined_pieces)) (own := [("start", 11), ("end", 12)]) (by decide +kernel)) (fun _ _ _ _ _ => (eg_tup rfl (egs_cons (eg_name 11 sc_joined_pieces.nd rfl (.inl rfl)) (egs_cons (eg_name 12 sc_joined_pieces.nd rfl (.inl rfl)) egs_nil)))) (fun _ _ _ _ _ => ets_nil) (fun _ _ _ _ _ => (ev_tup (ea_cons (ev_ix (ev_ix (ev_var 2 rfl (.inr (.inl rfl))) (ev_var 11 rfl (.inl rfl)) (fun _ _ => rfl)) ev_int (fun _ _ => rfl)) (ea_cons (ev_ix (ev_ix (ev_var 2 rfl (.inr (.inl rfl))) (ev_bin op_dSub (ev_var 12 rfl (.inl rfl)) ev_int) (fun _ _ => rfl)) ev_int (fun _ _ => rfl)) (ea_cons (ev_ix (ev_ix (ev_var 2 rfl (.inr (.inl rfl))) (ev_var 11 rfl (.inl rfl)) (fun _ _ => rfl)) ev_int (fun _ _ => rfl)) ea_nil))))))
    (es_one (es_ret (ev_frz (evL_lc (own := [("piece", 13)]) rfl sc_joined_pieces.nd (ei_seq (ev_var 9 rfl (.inl rfl))) (blkOk_by (N := N_joined_pieces) (sc := (defScope s_joined_pieces)) (own := [("piece", 13)]) (by decide +kernel)) (fun _ _ _ _ _ => (eg_name 13 sc_joined_pieces.nd rfl (.inl rfl))) (fun _ _ _ _ _ => (ets_one (ev_cmpT op_dGt rfl (ev_ix (ev_var 13 rfl (.inl rfl)) ev_int (fun _ _ => rfl)) ev_int))) (fun _ _ _ _ _ => (ev_var 13 rfl (.inl rfl)))))))))))))))
theorem ok_Profile___init__ (X : K.In h) (G : h.Ns mainGlobals mg) (c : SaysW fa pr op bn xf fn K) : FnA P w K mg base 5 (He.ma K (He.ga K "Profile") "__init__") ["self", "cold", "pieces"] (spD K (TT K) 3 g_Profile___init__) :=
  fnA (c.def_ 5 (d := d_Profile___init__) rfl) (fun fd F => FunD.bindsN F fun _ _ _ _ _ _ us hl => match us, hl with | [_, _, _], _ => rfl) fun fd F =>
    fn_D F sc_Profile___init__ fun cdv A outer s H E hr nr =>
    (es_cons (es_if (evt_of (evw_or (evt_not (ev_val (ev_callB (ok_in_range X G c) hr (by decide) nr (by rfl) (ea_cons (ev_var 1 rfl (.inl rfl)) (ea_cons ev_int (ea_cons ev_non ea_nil)))))) (evw_or1 (evt_not (ev_val (ev_callB (ok_are_pieces X G c) hr (by decide) nr (by rfl) (ea_cons (ev_var 2 rfl (.inl rfl)) ea_nil))))))) (es_one es_never) es_nil)
    (es_cons (es_fld [0] (fld_own_cold c) (ev_var 1 rfl (.inl rfl)) (ev_var 0 rfl (.inl rfl)))
    (es_one (es_fld [0] (fld_own_pieces c) (ev_ct ct_tuple (by rfl) (fr_tuple X G c) boot_tuple (ea_cons (ev_callB (ok_joined_pieces X G c) hr (by decide) nr (by rfl) (ea_cons (ev_var 2 rfl (.inl rfl)) ea_nil)) ea_nil)) (ev_var 0 rfl (.inl rfl))))))
theorem ok_profile_from (X : K.In h) (G : h.Ns mainGlobals mg) (c : SaysW fa pr op bn xf fn K) : FnB P w K mg base 7 "profile_from" ["cold", "pieces"] (spD K (TT K) 2 g_profile_from) :=
  fnB (c.def_ 6 (d := d_profile_from) rfl) (He.glo_ok X G (c.fact 10 (f := .glo "profile_from") rfl)) (fun fd F => FunD.bindsN F fun _ _ _ _ _ _ us hl => match us, hl with | [_, _], _ => rfl) fun fd F =>
    fn_D F sc_profile_from fun cdv A outer s H E hr nr =>
    (es_one (es_ret (ev_makeA (NM := NMf) (c := 0) (ok_Profile___init__ X G c) hr (by decide) nr rfl (He.mkr_ok (c.fact 3 rfl)) (He.glo_ok X G (c.fact 4 rfl)) (by rfl) (ea_cons (ev_var 0 rfl (.inl rfl)) (ea_cons (ev_callB (ok_joined_pieces X G c) hr (by decide) nr (by rfl) (ea_cons (ev_var 1 rfl (.inl rfl)) ea_nil)) ea_nil)))))
theorem ok_Profile___add__ (X : K.In h) (G : h.Ns mainGlobals mg) (c : SaysW fa pr op bn xf fn K) : FnA P w K mg base 8 (He.ma K (He.ga K "Profile") "__add__") ["self", "other"] (spD K (TT K) 2 g_Profile___add__) :=
  fnA (c.def_ 7 (d := d_Profile___add__) rfl) (fun fd F => FunD.bindsN F fun _ _ _ _ _ _ us hl => match us, hl with | [_, _], _ => rfl) fun fd F =>
    fn_D F sc_Profile___add__ fun cdv A outer s H E hr nr =>
    (es_cons (es_if (evt_not (ev_val (ev_isiC (tab_Profile) (isi1_Profile c) (isi2_Profile c) (isi3_Profile c) (by rfl) (fr_isinstance X G c) boot_isinstance (ev_var 1 rfl (.inl rfl)) (by rfl) (He.glo_ok X G (c.fact 4 rfl))))) (es_one es_never) es_nil)
    (es_one (es_ret (ev_callB (ok_profile_from X G c) hr (by decide) nr (by rfl) (ea_cons (ev_bin op_dAdd (ev_fld NMf [0] rfl (fld_own_cold c) (ev_var 0 rfl (.inl rfl))) (ev_fld NMf [0] rfl (fld_own_cold c) (ev_var 1 rfl (.inl rfl)))) (ea_cons (ev_bin op_dAdd (ev_fld NMf [0] rfl (fld_own_pieces c) (ev_var 0 rfl (.inl rfl))) (ev_fld NMf [0] rfl (fld_own_pieces c) (ev_var 1 rfl (.inl rfl)))) ea_nil))))))
theorem ok_require_number (X : K.In h) (G : h.Ns mainGlobals mg) (c : SaysW fa pr op bn xf fn K) : FnB P w K mg base 3 "require_number" ["value", "low", "high"] (spD K (TT K) 3 g_require_number) :=
  fnB (c.def_ 8 (d := d_require_number) rfl) (He.glo_ok X G (c.fact 11 (f := .glo "require_number") rfl)) (fun fd F => FunD.bindsN F fun _ _ _ _ _ _ us hl => match us, hl with | [_, _, _], _ => rfl) fun fd F =>
    fn_D F sc_require_number fun cdv A outer s H E hr nr =>
    (es_one (es_if (evt_not (ev_val (ev_callB (ok_in_range X G c) hr (by decide) nr (by rfl) (ea_cons (ev_var 0 rfl (.inl rfl)) (ea_cons (ev_var 1 rfl (.inl rfl)) (ea_cons (ev_var 2 rfl (.inl rfl)) ea_nil)))))) (es_one es_never) es_nil))
theorem ok_multiplied (X : K.In h) (G : h.Ns mainGlobals mg) (c : SaysW fa pr op bn xf fn K) : FnB P w K mg base 1 "multiplied" ["pieces", "times"] (spL K (TT K) 2 g_multiplied) :=
  fnB (c.def_ 9 (d := d_multiplied) rfl) (He.glo_ok X G (c.fact 12 (f := .glo "multiplied") rfl)) (fun fd F => FunD.bindsN F fun _ _ _ _ _ _ us hl => match us, hl with | [_, _], _ => rfl) fun fd F =>
    fn_L F sc_multiplied fun cdv A outer s H E hr nr =>
    (es_one (es_ret (ev_cell (evL_lc (own := [("low", 2), ("high", 3), ("number", 4)]) rfl sc_multiplied.nd (ei_seq (ev_var 0 rfl (.inl rfl))) (blkOk_by (N := N_multiplied) (sc := (defScope s_multiplied)) (own := [("low", 2), ("high", 3), ("number", 4)]) (by decide +kernel)) (fun _ _ _ _ _ => (eg_tup rfl (egs_cons (eg_name 2 sc_multiplied.nd rfl (.inl rfl)) (egs_cons (eg_name 3 sc_multiplied.nd rfl (.inl rfl)) (egs_cons (eg_name 4 sc_multiplied.nd rfl (.inl rfl)) egs_nil))))) (fun _ _ _ _ _ => (ets_one (ev_cmpT op_dGt rfl (ev_var 1 rfl (.inr (.inl rfl))) ev_int))) (fun _ _ _ _ _ => (ev_tup (ea_cons (ev_var 2 rfl (.inl rfl)) (ea_cons (ev_var 3 rfl (.inl rfl)) (ea_cons (ev_bin op_dMul (ev_var 1 rfl (.inr (.inl rfl))) (ev_var 4 rfl (.inl rfl))) ea_nil)))))))))
theorem ok_Profile___mul__ (X : K.In h) (G : h.Ns mainGlobals mg) (c : SaysW fa pr op bn xf fn K) : FnA P w K mg base 8 (He.ma K (He.ga K "Profile") "__mul__") ["self", "times"] (spD K (TT K) 2 g_Profile___mul__) :=
  fnA (c.def_ 10 (d := d_Profile___mul__) rfl) (fun fd F => FunD.bindsN F fun _ _ _ _ _ _ us hl => match us, hl with | [_, _], _ => rfl) fun fd F =>
    fn_D F sc_Profile___mul__ fun cdv A outer s H E hr nr =>
    (es_cons (es_expr (ev_callB (ok_require_number X G c) hr (by decide) nr (by rfl) (ea_cons (ev_var 1 rfl (.inl rfl)) (ea_cons ev_int (ea_cons (gi_MOST_TIMES X G c (by rfl)) ea_nil)))))
    (es_one (es_ret (ev_callB (ok_profile_from X G c) hr (by decide) nr (by rfl) (ea_cons (ev_bin op_dMul (ev_fld NMf [0] rfl (fld_own_cold c) (ev_var 0 rfl (.inl rfl))) (ev_var 1 rfl (.inl rfl))) (ea_cons (ev_frz (evL_callB (ok_multiplied X G c) hr (by decide) nr (by rfl) (ea_cons (ev_fld NMf [0] rfl (fld_own_pieces c) (ev_var 0 rfl (.inl rfl))) (ea_cons (ev_var 1 rfl (.inl rfl)) ea_nil)))) ea_nil))))))
theorem ok__law_pond (X : K.In h) (G : h.Ns mainGlobals mg) (c : SaysW fa pr op bn xf fn K) : FnB P w K mg base 1 "_law_pond" ["script", "k"] (spL K (TT K) 2 g__law_pond) :=
  fnB (c.def_ 11 (d := d__law_pond) rfl) (He.glo_ok X G (c.fact 13 (f := .glo "_law_pond") rfl)) (fun fd F => FunD.bindsN F fun _ _ _ _ _ _ us hl => match us, hl with | [_, _], _ => rfl) fun fd F =>
    fn_L F sc__law_pond fun cdv A outer s H E hr nr =>
    (es_cons (es_set (i := 2) sc__law_pond.nd rfl (.inl rfl) ev_int)
    (es_cons (es_if (ev_cmpT op_dLt rfl (ev_var 1 rfl (.inl rfl)) (ev_cb cb_len (by rfl) (fr_len X G c) boot_len (ea_cons (ev_var 0 rfl (.inl rfl)) ea_nil))) (es_one (es_set (i := 2) sc__law_pond.nd rfl (.inl rfl) (ev_ix (ev_var 0 rfl (.inl rfl)) (ev_var 1 rfl (.inl rfl)) (fun _ _ => rfl)))) es_nil)
    (es_one (es_ret (ev_cell (evL_lst (ea_cons (ev_cb (cb_max2 rfl) (by rfl) (fr_max X G c) boot_max (ea_cons ev_int (ea_cons (ev_bin op_dSub (ev_var 2 rfl (.inl rfl)) (ev_bin op_dPow ev_int ev_int)) ea_nil))) (ea_cons (ev_bin op_dAdd (ev_bin op_dAdd (ev_bin op_dMul (ev_bin op_dMod (ev_ct ct_int (by rfl) (fr_int X G c) boot_int (ea_cons (ev_var 2 rfl (.inl rfl)) ea_nil)) (ev_bin op_dAdd (ev_bin op_dPow ev_int ev_int) ev_int)) ev_int) (ev_bin op_dMul ev_int (ev_var 1 rfl (.inl rfl)))) ev_int) (ea_cons ev_int ea_nil)))))))))
theorem ok__law_dip (X : K.In h) (G : h.Ns mainGlobals mg) (c : SaysW fa pr op bn xf fn K) : FnB P w K mg base 1 "_law_dip" ["pond", "many"] (spD K (TT K) 2 g__law_dip) :=
  fnB (c.def_ 12 (d := d__law_dip) rfl) (He.glo_ok X G (c.fact 14 (f := .glo "_law_dip") rfl)) (fun fd F => FunD.bindsN F fun _ _ _ _ _ _ us hl => match us, hl with | [_, _], _ => rfl) fun fd F =>
    fn_D F sc__law_dip fun cdv A outer s H E hr nr =>
    (es_cons (es_if (ev_cmpT op_dGt rfl (ev_ix (ev_var 0 rfl (.inl rfl)) ev_int (fun _ _ => rfl)) ev_int) (es_cons (es_set (i := 2) sc__law_dip.nd rfl (.inl rfl) (ev_bin op_dMod (ev_ct ct_int (by rfl) (fr_int X G c) boot_int (ea_cons (ev_ix (ev_var 0 rfl (.inl rfl)) ev_int (fun _ _ => rfl)) ea_nil)) (ev_var 1 rfl (.inl rfl))))
    (es_cons (es_store (ev_bin op_dDiv (ev_ix (ev_var 0 rfl (.inl rfl)) ev_int (fun _ _ => rfl)) (ev_var 1 rfl (.inl rfl))) (ev_var 0 rfl (.inl rfl)) ev_int)
    (es_one (es_ret (ev_var 2 rfl (.inl rfl)))))) es_nil)
    (es_cons (es_store (ev_bin op_dAdd (ev_ix (ev_var 0 rfl (.inl rfl)) ev_int (fun _ _ => rfl)) ev_int) (ev_var 0 rfl (.inl rfl)) ev_int)
    (es_cons (es_set (i := 3) sc__law_dip.nd rfl (.inl rfl) (ev_bin op_dMod (ev_ct ct_int (by rfl) (fr_int X G c) boot_int (ea_cons (ev_bin op_dPow (ev_bin op_dAdd (ev_ix (ev_var 0 rfl (.inl rfl)) ev_int (fun _ _ => rfl)) (ev_bin op_dMul ev_int (ev_ix (ev_var 0 rfl (.inl rfl)) ev_int (fun _ _ => rfl)))) ev_int) ea_nil)) (ev_bin op_dAdd (ev_bin op_dPow ev_int ev_int) ev_int)))
    (es_cons (es_set (i := 3) sc__law_dip.nd rfl (.inl rfl) (ev_bin op_dMod (ev_ct ct_int (by rfl) (fr_int X G c) boot_int (ea_cons (ev_bin op_dPow (ev_bin op_dAdd (ev_var 3 rfl (.inl rfl)) (ev_bin op_dMul ev_int (ev_ix (ev_var 0 rfl (.inl rfl)) ev_int (fun _ _ => rfl)))) ev_int) ea_nil)) (ev_bin op_dAdd (ev_bin op_dPow ev_int ev_int) ev_int)))
    (es_one (es_ret (ev_bin op_dMod (ev_ct ct_int (by rfl) (fr_int X G c) boot_int (ea_cons (ev_bin op_dDiv (ev_var 3 rfl (.inl rfl)) ev_int) ea_nil)) (ev_var 1 rfl (.inl rfl)))))))))
theorem ok__law_given (X : K.In h) (G : h.Ns mainGlobals mg) (c : SaysW fa pr op bn xf fn K) : FnB P w K mg base 2 "_law_given" ["pond", "wide"] (spL K (TT K) 2 g__law_given) :=
  fnB (c.def_ 13 (d := d__law_given) rfl) (He.glo_ok X G (c.fact 15 (f := .glo "_law_given") rfl)) (fun fd F => FunD.bindsN F fun _ _ _ _ _ _ us hl => match us, hl with | [_, _], _ => rfl) fun fd F =>
    fn_L F sc__law_given fun cdv A outer s H E hr nr =>
    (es_cons (es_par (i := 2) (j := 3) rfl sc__law_given.nd rfl rfl (by decide) rfl rfl (ea_cons (ev_cell (evL_lst ea_nil)) (ea_cons ev_int ea_nil)) rfl)
    (es_cons (es_for PassesOwn.never rfl (ei_range1 (by rfl) (fr_range X G c) (ea_cons (ev_callB (ok__law_dip X G c) hr (by decide) nr (by rfl) (ea_cons (ev_var 0 rfl (.inl rfl)) (ea_cons ev_int ea_nil))) ea_nil)) (eg_name 4 sc__law_given.nd rfl (.inl rfl)) (es_cons (es_set (i := 5) sc__law_given.nd rfl (.inl rfl) (ev_bin op_dAdd (ev_bin op_dAdd (ev_var 3 rfl (.inl rfl)) ev_int) (ev_ix (ev_frz (evL_lst (ea_cons ev_int (ea_cons ev_int (ea_cons (ev_callB (ok__law_dip X G c) hr (by decide) nr (by rfl) (ea_cons (ev_var 0 rfl (.inl rfl)) (ea_cons (ev_var 1 rfl (.inl rfl)) ea_nil))) ea_nil))))) (ev_callB (ok__law_dip X G c) hr (by decide) nr (by rfl) (ea_cons (ev_var 0 rfl (.inl rfl)) (ea_cons ev_int ea_nil))) (fun _ _ => rfl))))
    (es_cons (es_set (i := 3) sc__law_given.nd rfl (.inl rfl) (ev_bin op_dAdd (ev_var 5 rfl (.inl rfl)) (ev_ix (ev_frz (evL_lst (ea_cons ev_int (ea_cons (ev_callB (ok__law_dip X G c) hr (by decide) nr (by rfl) (ea_cons (ev_var 0 rfl (.inl rfl)) (ea_cons ev_int ea_nil))) (ea_cons (ev_callB (ok__law_dip X G c) hr (by decide) nr (by rfl) (ea_cons (ev_var 0 rfl (.inl rfl)) (ea_cons (ev_var 1 rfl (.inl rfl)) ea_nil))) ea_nil))))) (ev_callB (ok__law_dip X G c) hr (by decide) nr (by rfl) (ea_cons (ev_var 0 rfl (.inl rfl)) (ea_cons ev_int ea_nil))) (fun _ _ => rfl))))
    (es_one (es_expr (ev_meth PySem.F.plainAttrs_list PySem.F.slot_list_append PySem.F.type_list_append mt_mAppend (ev_var 2 rfl (.inl rfl)) (ea_cons (ev_tup (ea_cons (ev_var 5 rfl (.inl rfl)) (ea_cons (ev_var 3 rfl (.inl rfl)) (ea_cons (ev_ix (ev_frz (evL_lst (ea_cons ev_int (ea_cons ev_int (ea_cons (ev_bin op_dAdd ev_int (ev_callB (ok__law_dip X G c) hr (by decide) nr (by rfl) (ea_cons (ev_var 0 rfl (.inl rfl)) (ea_cons (ev_var 1 rfl (.inl rfl)) ea_nil)))) ea_nil))))) (ev_callB (ok__law_dip X G c) hr (by decide) nr (by rfl) (ea_cons (ev_var 0 rfl (.inl rfl)) (ea_cons ev_int ea_nil))) (fun _ _ => rfl)) ea_nil)))) ea_nil)))))))
    (es_one (es_ret (ev_var 2 rfl (.inl rfl))))))
theorem ok__law_many (X : K.In h) (G : h.Ns mainGlobals mg) (c : SaysW fa pr op bn xf fn K) : FnB P w K mg base 2 "_law_many" ["pond", "many"] (spL K (TT K) 2 g__law_many) :=
  fnB (c.def_ 14 (d := d__law_many) rfl) (He.glo_ok X G (c.fact 16 (f := .glo "_law_many") rfl)) (fun fd F => FunD.bindsN F fun _ _ _ _ _ _ us hl => match us, hl with | [_, _], _ => rfl) fun fd F =>
    fn_L F sc__law_many fun cdv A outer s H E hr nr =>
    (es_cons (es_par3 (i := 2) (j := 3) (l := 4) rfl sc__law_many.nd rfl rfl rfl (by decide) (by decide) (by decide) rfl rfl rfl (ea_cons (ev_cell (evL_lst ea_nil)) (ea_cons ev_int (ea_cons ev_int ea_nil))) rfl)
    (es_cons (es_for PassesOwn.never rfl (ei_range1 (by rfl) (fr_range X G c) (ea_cons (ev_var 1 rfl (.inl rfl)) ea_nil)) (eg_name 5 sc__law_many.nd rfl (.inl rfl)) (es_cons (es_if (ev_cmpT (op_dEq hr.units) rfl (ev_callB (ok__law_dip X G c) hr (by decide) nr (by rfl) (ea_cons (ev_var 0 rfl (.inl rfl)) (ea_cons ev_int ea_nil))) ev_int) (es_one (es_par (i := 3) (j := 4) rfl sc__law_many.nd rfl rfl (by decide) rfl rfl (ea_cons (ev_bin op_dAdd (ev_var 3 rfl (.inl rfl)) (ev_callB (ok__law_dip X G c) hr (by decide) nr (by rfl) (ea_cons (ev_var 0 rfl (.inl rfl)) (ea_cons ev_int ea_nil)))) (ea_cons (ev_bin op_dAdd ev_int (ev_callB (ok__law_dip X G c) hr (by decide) nr (by rfl) (ea_cons (ev_var 0 rfl (.inl rfl)) (ea_cons ev_int ea_nil)))) ea_nil)) rfl)) es_nil)
    (es_cons (es_set (i := 6) sc__law_many.nd rfl (.inl rfl) (ev_bin op_dAdd (ev_var 3 rfl (.inl rfl)) ev_int))
    (es_cons (es_set (i := 3) sc__law_many.nd rfl (.inl rfl) (ev_bin op_dAdd (ev_var 6 rfl (.inl rfl)) (ev_callB (ok__law_dip X G c) hr (by decide) nr (by rfl) (ea_cons (ev_var 0 rfl (.inl rfl)) (ea_cons ev_int ea_nil)))))
    (es_one (es_expr (ev_meth PySem.F.plainAttrs_list PySem.F.slot_list_append PySem.F.type_list_append mt_mAppend (ev_var 2 rfl (.inl rfl)) (ea_cons (ev_tup (ea_cons (ev_var 6 rfl (.inl rfl)) (ea_cons (ev_var 3 rfl (.inl rfl)) (ea_cons (ev_var 4 rfl (.inl rfl)) ea_nil)))) ea_nil))))))))
    (es_one (es_ret (ev_var 2 rfl (.inl rfl))))))
theorem ok_Profile_cold (X : K.In h) (G : h.Ns mainGlobals mg) (c : SaysW fa pr op bn xf fn K) : FnA P w K mg base 1 (prG K ⟨"Profile", "cold"⟩) ["self"] (spD K (TT K) 1 g_Profile_cold) :=
  fnA (c.def_ 15 (d := d_Profile_cold) rfl) (fun fd F => FunD.bindsN F fun _ _ _ _ _ _ us hl => match us, hl with | [_], _ => rfl) fun fd F =>
    fn_D F sc_Profile_cold fun cdv A outer s H E hr nr =>
    (es_one (es_ret (ev_fld NMf [0] rfl (fld_own_cold c) (ev_var 0 rfl (.inl rfl)))))
theorem ok_Profile_pieces (X : K.In h) (G : h.Ns mainGlobals mg) (c : SaysW fa pr op bn xf fn K) : FnA P w K mg base 1 (prG K ⟨"Profile", "pieces"⟩) ["self"] (spL K (TT K) 1 g_Profile_pieces) :=
  fnA (c.def_ 16 (d := d_Profile_pieces) rfl) (fun fd F => FunD.bindsN F fun _ _ _ _ _ _ us hl => match us, hl with | [_], _ => rfl) fun fd F =>
    fn_L F sc_Profile_pieces fun cdv A outer s H E hr nr =>
    (es_one (es_ret (ev_cell (evL_ct ct_list (by rfl) (fr_list X G c) boot_list (ea_cons (ev_fld NMf [0] rfl (fld_own_pieces c) (ev_var 0 rfl (.inl rfl))) ea_nil)))))
theorem ok__law_shown (X : K.In h) (G : h.Ns mainGlobals mg) (c : SaysW fa pr op bn xf fn K) : FnB P w K mg base 3 "_law_shown" ["made"] (spD K (TT K) 1 g__law_shown) :=
  fnB (c.def_ 17 (d := d__law_shown) rfl) (He.glo_ok X G (c.fact 17 (f := .glo "_law_shown") rfl)) (fun fd F => FunD.bindsN F fun _ _ _ _ _ _ us hl => match us, hl with | [_], _ => rfl) fun fd F =>
    fn_D F sc__law_shown fun cdv A outer s H E hr nr =>
    (es_one (es_ret (ev_cb (cb_repr hr.units nr) (by rfl) (fr_repr X G c) boot_repr (ea_cons (ev_frz (evL_lst (ea_cons (ev_propA (NM := NMf) (c := 0) (ok_Profile_cold X G c) hr (by decide) nr rfl (He.cls_ok (c.fact 0 rfl)) (c.prop 0 (p := ⟨"Profile", "cold"⟩) rfl) (ev_var 0 rfl (.inl rfl))) (ea_cons (ev_frz (evL_propA (NM := NMf) (c := 0) (ok_Profile_pieces X G c) hr (by decide) nr rfl (He.cls_ok (c.fact 0 rfl)) (c.prop 1 (p := ⟨"Profile", "pieces"⟩) rfl) (ev_var 0 rfl (.inl rfl)))) ea_nil)))) ea_nil))))
theorem ok_Profile___eq__ (X : K.In h) (G : h.Ns mainGlobals mg) (c : SaysW fa pr op bn xf fn K) : FnA P w K mg base 1 (He.ma K (He.ga K "Profile") "__eq__") ["self", "other"] (spD K (TT K) 2 g_Profile___eq__) :=
  fnA (c.def_ 18 (d := d_Profile___eq__) rfl) (fun fd F => FunD.bindsN F fun _ _ _ _ _ _ us hl => match us, hl with | [_, _], _ => rfl) fun fd F =>
    fn_D F sc_Profile___eq__ fun cdv A outer s H E hr nr =>
    (es_cons (es_if (evt_not (ev_val (ev_isiC (tab_Profile) (isi1_Profile c) (isi2_Profile c) (isi3_Profile c) (by rfl) (fr_isinstance X G c) boot_isinstance (ev_var 1 rfl (.inl rfl)) (by rfl) (He.glo_ok X G (c.fact 4 rfl))))) (es_one (es_ret ev_bl)) es_nil)
    (es_one (es_ret (ev_and (ev_cmp (op_dEq hr.units) rfl (ev_fld NMf [0] rfl (fld_own_cold c) (ev_var 0 rfl (.inl rfl))) (ev_fld NMf [0] rfl (fld_own_cold c) (ev_var 1 rfl (.inl rfl)))) (ev_one (ev_cmp (op_dEq hr.units) rfl (ev_fld NMf [0] rfl (fld_own_pieces c) (ev_var 0 rfl (.inl rfl))) (ev_fld NMf [0] rfl (fld_own_pieces c) (ev_var 1 rfl (.inl rfl)))))))))
theorem ok__law_often (X : K.In h) (G : h.Ns mainGlobals mg) (c : SaysW fa pr op bn xf fn K) : FnB P w K mg base 1 "_law_often" ["given", "gap"] (spD K (TT K) 2 g__law_often) :=
  fnB (c.def_ 19 (d := d__law_often) rfl) (He.glo_ok X G (c.fact 18 (f := .glo "_law_often") rfl)) (fun fd F => FunD.bindsN F fun _ _ _ _ _ _ us hl => match us, hl with | [_, _], _ => rfl) fun fd F =>
    fn_D F sc__law_often fun cdv A outer s H E hr nr =>
    (es_one (es_ret (ev_cb (cb_sum rfl) (by rfl) (fr_sum X G c) boot_sum (ea_cons (ev_frz (evL_lc (own := [("low", 2), ("high", 3), ("often", 4)]) rfl sc__law_often.nd (ei_seq (ev_var 0 rfl (.inl rfl))) (blkOk_by (N := N__law_often) (sc := (defScope s__law_often)) (own := [("low", 2), ("high", 3), ("often", 4)]) (by decide +kernel)) (fun _ _ _ _ _ => (eg_tup rfl (egs_cons (eg_name 2 sc__law_often.nd rfl (.inl rfl)) (egs_cons (eg_name 3 sc__law_often.nd rfl (.inl rfl)) (egs_cons (eg_name 4 sc__law_often.nd rfl (.inl rfl)) egs_nil))))) (fun _ _ _ _ _ => (ets_one (evt_chain op_dLe op_dLe (ev_var 2 rfl (.inl rfl)) (ev_var 1 rfl (.inr (.inl rfl))) (ev_var 3 rfl (.inl rfl))))) (fun _ _ _ _ _ => (ev_var 4 rfl (.inl rfl))))) ea_nil))))
theorem ok__law_both (X : K.In h) (G : h.Ns mainGlobals mg) (c : SaysW fa pr op bn xf fn K) : FnB P w K mg base 2 "_law_both" ["given", "other"] (spD K (TT K) 2 g__law_both) :=
  fnB (c.def_ 20 (d := d__law_both) rfl) (He.glo_ok X G (c.fact 19 (f := .glo "_law_both") rfl)) (fun fd F => FunD.bindsN F fun _ _ _ _ _ _ us hl => match us, hl with | [_, _], _ => rfl) fun fd F =>
    fn_D F sc__law_both fun cdv A outer s H E hr nr =>
    (es_cons (es_set (i := 2) sc__law_both.nd rfl (.inl rfl) (ev_bin op_dAdd (ev_frz (evL_lc (own := [("low", 4), ("high", 7), ("often", 6)]) rfl sc__law_both.nd (ei_seq (ev_bin op_dAdd (ev_var 0 rfl (.inl rfl)) (ev_var 1 rfl (.inl rfl)))) (blkOk_by (N := N__law_both) (sc := (defScope s__law_both)) (own := [("low", 4), ("high", 7), ("often", 6)]) (by decide +kernel)) (fun _ _ _ _ _ => (eg_tup rfl (egs_cons (eg_name 4 sc__law_both.nd rfl (.inl rfl)) (egs_cons (eg_name 7 sc__law_both.nd rfl (.inl rfl)) (egs_cons (eg_name 6 sc__law_both.nd rfl (.inl rfl)) egs_nil))))) (fun _ _ _ _ _ => ets_nil) (fun _ _ _ _ _ => (ev_var 4 rfl (.inl rfl))))) (ev_frz (evL_lc (own := [("low", 4), ("high", 7), ("often", 6)]) rfl sc__law_both.nd (ei_seq (ev_bin op_dAdd (ev_var 0 rfl (.inl rfl)) (ev_var 1 rfl (.inl rfl)))) (blkOk_by (N := N__law_both) (sc := (defScope s__law_both)) (own := [("low", 4), ("high", 7), ("often", 6)]) (by decide +kernel)) (fun _ _ _ _ _ => (eg_tup rfl (egs_cons (eg_name 4 sc__law_both.nd rfl (.inl rfl)) (egs_cons (eg_name 7 sc__law_both.nd rfl (.inl rfl)) (egs_cons (eg_name 6 sc__law_both.nd rfl (.inl rfl)) egs_nil))))) (fun _ _ _ _ _ => ets_nil) (fun _ _ _ _ _ => (ev_bin op_dAdd (ev_var 7 rfl (.inl rfl)) ev_int))))))
    (es_cons (es_par (i := 2) (j := 3) rfl sc__law_both.nd rfl rfl (by decide) rfl rfl (ea_cons (ev_frz (evL_sortedSet rfl (by rfl) (fr_sorted X G c) boot_sorted (by rfl) (fr_set X G c) boot_set (ev_var 2 rfl (.inl rfl)))) (ea_cons (ev_cell (evL_lst ea_nil)) ea_nil)) rfl)
    (es_cons (es_for PassesOwn.never rfl (ei_zip (by rfl) (fr_zip X G c) (ea_cons (ev_var 2 rfl (.inl rfl)) (ea_cons (ev_slice (ev_var 2 rfl (.inl rfl)) (eo_some ev_int) eo_none) ea_nil))) (eg_tup rfl (egs_cons (eg_name 4 sc__law_both.nd rfl (.inl rfl)) (egs_cons (eg_name 5 sc__law_both.nd rfl (.inl rfl)) egs_nil))) (es_cons (es_set (i := 6) sc__law_both.nd rfl (.inl rfl) (ev_bin op_dAdd (ev_callB (ok__law_often X G c) hr (by decide) nr (by rfl) (ea_cons (ev_var 0 rfl (.inl rfl)) (ea_cons (ev_var 4 rfl (.inl rfl)) ea_nil))) (ev_callB (ok__law_often X G c) hr (by decide) nr (by rfl) (ea_cons (ev_var 1 rfl (.inl rfl)) (ea_cons (ev_var 4 rfl (.inl rfl)) ea_nil)))))
    (es_one (es_if (evt_of (evw_and (ev_cmpT op_dGt rfl (ev_var 6 rfl (.inl rfl)) ev_int) (evw_and (ev_cmpT (op_dNe hr.units) rfl (ev_var 3 rfl (.inl rfl)) (ev_frz (evL_lst ea_nil))) (evw_and (ev_cmpT (op_dEq hr.units) rfl (ev_ix (ev_ix (ev_var 3 rfl (.inl rfl)) (ev_un un_dNeg ev_int) (fun _ _ => rfl)) ev_int (fun _ _ => rfl)) (ev_bin op_dSub (ev_var 4 rfl (.inl rfl)) ev_int)) (evw_and1 (ev_cmpT (op_dEq hr.units) rfl (ev_ix (ev_ix (ev_var 3 rfl (.inl rfl)) (ev_un un_dNeg ev_int) (fun _ _ => rfl)) ev_int (fun _ _ => rfl)) (ev_var 6 rfl (.inl rfl)))))))) (es_one (es_store (ev_tup (ea_cons (ev_ix (ev_ix (ev_var 3 rfl (.inl rfl)) (ev_un un_dNeg ev_int) (fun _ _ => rfl)) ev_int (fun _ _ => rfl)) (ea_cons (ev_bin op_dSub (ev_var 5 rfl (.inl rfl)) ev_int) (ea_cons (ev_var 6 rfl (.inl rfl)) ea_nil)))) (ev_var 3 rfl (.inl rfl)) (ev_un un_dNeg ev_int))) (es_one (es_if (ev_cmpT op_dGt rfl (ev_var 6 rfl (.inl rfl)) ev_int) (es_one (es_expr (ev_meth PySem.F.plainAttrs_list PySem.F.slot_list_append PySem.F.type_list_append mt_mAppend (ev_var 3 rfl (.inl rfl)) (ea_cons (ev_tup (ea_cons (ev_var 4 rfl (.inl rfl)) (ea_cons (ev_bin op_dSub (ev_var 5 rfl (.inl rfl)) ev_int) (ea_cons (ev_var 6 rfl (.inl rfl)) ea_nil)))) ea_nil)))) es_nil))))))
    (es_one (es_ret (ev_var 3 rfl (.inl rfl)))))))
theorem ok__law_right (X : K.In h) (G : h.Ns mainGlobals mg) (c : SaysW fa pr op bn xf fn K) : FnB P w K mg base 9 "_law_right" ["pond", "cold", "given", "other", "wide"] (spD K (TT K) 5 g__law_right) :=
  fnB (c.def_ 21 (d := d__law_right) rfl) (He.glo_ok X G (c.fact 20 (f := .glo "_law_right") rfl)) (fun fd F => FunD.bindsN F fun _ _ _ _ _ _ us hl => match us, hl with | [_, _, _, _, _], _ => rfl) fun fd F =>
    fn_D F sc__law_right fun cdv A outer s H E hr nr =>
    (es_cons (es_set (i := 5) sc__law_right.nd rfl (.inl rfl) (ev_callB (ok__law_dip X G c) hr (by decide) nr (by rfl) (ea_cons (ev_var 0 rfl (.inl rfl)) (ea_cons (ev_var 4 rfl (.inl rfl)) ea_nil))))
    (es_cons (es_par (i := 6) (j := 7) rfl sc__law_right.nd rfl rfl (by decide) rfl rfl (ea_cons (ev_makeA (NM := NMf) (c := 0) (ok_Profile___init__ X G c) hr (by decide) nr rfl (He.mkr_ok (c.fact 3 rfl)) (He.glo_ok X G (c.fact 4 rfl)) (by rfl) (ea_cons (ev_var 1 rfl (.inl rfl)) (ea_cons (ev_var 2 rfl (.inl rfl)) ea_nil))) (ea_cons (ev_makeA (NM := NMf) (c := 0) (ok_Profile___init__ X G c) hr (by decide) nr rfl (He.mkr_ok (c.fact 3 rfl)) (He.glo_ok X G (c.fact 4 rfl)) (by rfl) (ea_cons (ev_var 5 rfl (.inl rfl)) (ea_cons (ev_var 3 rfl (.inl rfl)) ea_nil))) ea_nil)) rfl)
    (es_cons (es_set (i := 8) sc__law_right.nd rfl (.inl rfl) (ev_frz (evL_lst (ea_cons (ev_callB (ok__law_shown X G c) hr (by decide) nr (by rfl) (ea_cons (ev_var 6 rfl (.inl rfl)) ea_nil)) (ea_cons (ev_callB (ok__law_shown X G c) hr (by decide) nr (by rfl) (ea_cons (ev_var 7 rfl (.inl rfl)) ea_nil)) ea_nil)))))
    (es_cons (es_set (i := 9) sc__law_right.nd rfl (.inl rfl) (ev_binM (op_binA (c := 0) (ok_Profile___add__ X G c) hr (by decide) nr (bnA_Profile_Add c)) (ev_var 6 rfl (.inl rfl)) (ev_var 7 rfl (.inl rfl))))
    (es_cons (es_if (evt_of (evw_or (evt_not (ev_val (ev_isiC (tab_Profile) (isi1_Profile c) (isi2_Profile c) (isi3_Profile c) (by rfl) (fr_isinstance X G c) boot_isinstance (ev_var 9 rfl (.inl rfl)) (by rfl) (He.glo_ok X G (c.fact 4 rfl))))) (evw_or1 (ev_cmpT (op_dNe hr.units) rfl (ev_callB (ok__law_shown X G c) hr (by decide) nr (by rfl) (ea_cons (ev_var 9 rfl (.inl rfl)) ea_nil)) (ev_cb (cb_repr hr.units nr) (by rfl) (fr_repr X G c) boot_repr (ea_cons (ev_frz (evL_lst (ea_cons (ev_bin op_dAdd (ev_var 1 rfl (.inl rfl)) (ev_var 5 rfl (.inl rfl))) (ea_cons (ev_callB (ok__law_both X G c) hr (by decide) nr (by rfl) (ea_cons (ev_var 2 rfl (.inl rfl)) (ea_cons (ev_var 3 rfl (.inl rfl)) ea_nil))) ea_nil)))) ea_nil)))))) (es_one (es_ret ev_bl)) es_nil)
    (es_cons (es_if (evt_of (evw_or (evt_not (ev_cmpTM (op_eqA (c := 0) (ok_Profile___eq__ X G c) hr (by decide) nr (c.own 0 (p := ⟨"Profile", "__eq__"⟩) rfl)) rfl (ev_binM (op_binA (c := 0) (ok_Profile___add__ X G c) hr (by decide) nr (bnA_Profile_Add c)) (ev_var 7 rfl (.inl rfl)) (ev_var 6 rfl (.inl rfl))) (ev_var 9 rfl (.inl rfl)))) (evw_or1 (ev_cmpT (op_dNe hr.units) rfl (ev_callB (ok__law_shown X G c) hr (by decide) nr (by rfl) (ea_cons (ev_binM (op_binA (c := 0) (ok_Profile___add__ X G c) hr (by decide) nr (bnA_Profile_Add c)) (ev_var 6 rfl (.inl rfl)) (ev_var 6 rfl (.inl rfl))) ea_nil)) (ev_callB (ok__law_shown X G c) hr (by decide) nr (by rfl) (ea_cons (ev_binM (op_binA (c := 0) (ok_Profile___mul__ X G c) hr (by decide) nr (bnA_Profile_Mult c)) (ev_var 6 rfl (.inl rfl)) ev_int) ea_nil)))))) (es_one (es_ret ev_bl)) es_nil)
    (es_cons (es_for PassesOwn.never rfl (ei_seq (ev_frz (evL_lst (ea_cons ev_int (ea_cons ev_int (ea_cons ev_int (ea_cons (ev_callB (ok__law_dip X G c) hr (by decide) nr (by rfl) (ea_cons (ev_var 0 rfl (.inl rfl)) (ea_cons (ev_bin op_dPow ev_int ev_int) ea_nil))) (ea_cons (ev_bin op_dPow ev_int ev_int) ea_nil)))))))) (eg_name 10 sc__law_right.nd rfl (.inr rfl)) (es_cons (es_setLc (i := 11) (own := [("low", 12), ("high", 13), ("often", 14)]) rfl sc__law_right.nd rfl rfl (sw_true rfl rfl rfl (by decide +kernel)) (ei_seq (ev_var 2 rfl (.inl rfl))) (blkOk_by (N := N__law_right) (sc := (defScope s__law_right)) (own := [("low", 12), ("high", 13), ("often", 14)]) (by decide +kernel)) (fun _ _ _ _ _ => (eg_tup rfl (egs_cons (eg_name 12 sc__law_right.nd rfl (.inl rfl)) (egs_cons (eg_name 13 sc__law_right.nd rfl (.inl rfl)) (egs_cons (eg_name 14 sc__law_right.nd rfl (.inl rfl)) egs_nil))))) (fun _ _ _ _ _ => (ets_one (ev_cmpT op_dGt rfl (ev_var 10 rfl (.inr (.inl rfl))) ev_int))) (fun _ _ _ _ _ => (ev_tup (ea_cons (ev_var 12 rfl (.inl rfl)) (ea_cons (ev_var 13 rfl (.inl rfl)) (ea_cons (ev_bin op_dMul (ev_var 10 rfl (.inr (.inl rfl))) (ev_var 14 rfl (.inl rfl))) ea_nil))))))
    (es_one (es_if (ev_cmpT (op_dNe hr.units) rfl (ev_callB (ok__law_shown X G c) hr (by decide) nr (by rfl) (ea_cons (ev_binM (op_binA (c := 0) (ok_Profile___mul__ X G c) hr (by decide) nr (bnA_Profile_Mult c)) (ev_var 6 rfl (.inl rfl)) (ev_var 10 rfl (.inr (.inl rfl)))) ea_nil)) (ev_cb (cb_repr hr.units nr) (by rfl) (fr_repr X G c) boot_repr (ea_cons (ev_frz (evL_lst (ea_cons (ev_bin op_dMul (ev_var 10 rfl (.inr (.inl rfl))) (ev_var 1 rfl (.inl rfl))) (ea_cons (ev_callB (ok__law_both X G c) hr (by decide) nr (by rfl) (ea_cons (ev_var 11 rfl (.inl rfl)) (ea_cons (ev_frz (evL_lst ea_nil)) ea_nil))) ea_nil)))) ea_nil))) (es_one (es_ret ev_bl)) es_nil))))
    (es_cons (es_set (i := 10) sc__law_right.nd rfl (.inr rfl) (ev_ix (ev_frz (evL_lst (ea_cons (ev_callB (ok__law_dip X G c) hr (by decide) nr (by rfl) (ea_cons (ev_var 0 rfl (.inl rfl)) (ea_cons ev_int ea_nil))) (ea_cons (ev_callB (ok__law_dip X G c) hr (by decide) nr (by rfl) (ea_cons (ev_var 0 rfl (.inl rfl)) (ea_cons (ev_bin op_dPow ev_int ev_int) ea_nil))) ea_nil)))) (ev_callB (ok__law_dip X G c) hr (by decide) nr (by rfl) (ea_cons (ev_var 0 rfl (.inl rfl)) (ea_cons ev_int ea_nil))) (fun _ _ => rfl)))
    (es_cons (es_if (evt_of (evw_or (evt_not (ev_cmpTM (op_eqA (c := 0) (ok_Profile___eq__ X G c) hr (by decide) nr (c.own 0 (p := ⟨"Profile", "__eq__"⟩) rfl)) rfl (ev_binM (op_binA (c := 0) (ok_Profile___add__ X G c) hr (by decide) nr (bnA_Profile_Add c)) (ev_binM (op_binA (c := 0) (ok_Profile___mul__ X G c) hr (by decide) nr (bnA_Profile_Mult c)) (ev_var 6 rfl (.inl rfl)) (ev_var 10 rfl (.inr (.inl rfl)))) (ev_binM (op_binA (c := 0) (ok_Profile___mul__ X G c) hr (by decide) nr (bnA_Profile_Mult c)) (ev_var 6 rfl (.inl rfl)) ev_int)) (ev_binM (op_binA (c := 0) (ok_Profile___mul__ X G c) hr (by decide) nr (bnA_Profile_Mult c)) (ev_var 6 rfl (.inl rfl)) (ev_bin op_dAdd (ev_var 10 rfl (.inr (.inl rfl))) ev_int)))) (evw_or1 (evt_not (ev_cmpTM (op_eqA (c := 0) (ok_Profile___eq__ X G c) hr (by decide) nr (c.own 0 (p := ⟨"Profile", "__eq__"⟩) rfl)) rfl (ev_binM (op_binA (c := 0) (ok_Profile___mul__ X G c) hr (by decide) nr (bnA_Profile_Mult c)) (ev_var 9 rfl (.inl rfl)) (ev_var 10 rfl (.inr (.inl rfl)))) (ev_binM (op_binA (c := 0) (ok_Profile___add__ X G c) hr (by decide) nr (bnA_Profile_Add c)) (ev_binM (op_binA (c := 0) (ok_Profile___mul__ X G c) hr (by decide) nr (bnA_Profile_Mult c)) (ev_var 6 rfl (.inl rfl)) (ev_var 10 rfl (.inr (.inl rfl)))) (ev_binM (op_binA (c := 0) (ok_Profile___mul__ X G c) hr (by decide) nr (bnA_Profile_Mult c)) (ev_var 7 rfl (.inl rfl)) (ev_var 10 rfl (.inr (.inl rfl)))))))))) (es_one (es_ret ev_bl)) es_nil)
    (es_cons (es_if (evt_of (evw_or (evt_not (ev_cmpTM (op_eqA (c := 0) (ok_Profile___eq__ X G c) hr (by decide) nr (c.own 0 (p := ⟨"Profile", "__eq__"⟩) rfl)) rfl (ev_binM (op_binA (c := 0) (ok_Profile___add__ X G c) hr (by decide) nr (bnA_Profile_Add c)) (ev_binM (op_binA (c := 0) (ok_Profile___add__ X G c) hr (by decide) nr (bnA_Profile_Add c)) (ev_var 6 rfl (.inl rfl)) (ev_var 7 rfl (.inl rfl))) (ev_var 6 rfl (.inl rfl))) (ev_binM (op_binA (c := 0) (ok_Profile___add__ X G c) hr (by decide) nr (bnA_Profile_Add c)) (ev_var 6 rfl (.inl rfl)) (ev_binM (op_binA (c := 0) (ok_Profile___add__ X G c) hr (by decide) nr (bnA_Profile_Add c)) (ev_var 7 rfl (.inl rfl)) (ev_var 6 rfl (.inl rfl)))))) (evw_or1 (evt_not (ev_cmpTM (op_eqA (c := 0) (ok_Profile___eq__ X G c) hr (by decide) nr (c.own 0 (p := ⟨"Profile", "__eq__"⟩) rfl)) rfl (ev_binM (op_binA (c := 0) (ok_Profile___add__ X G c) hr (by decide) nr (bnA_Profile_Add c)) (ev_var 6 rfl (.inl rfl)) (ev_makeA (NM := NMf) (c := 0) (ok_Profile___init__ X G c) hr (by decide) nr rfl (He.mkr_ok (c.fact 3 rfl)) (He.glo_ok X G (c.fact 4 rfl)) (by rfl) (ea_cons ev_int (ea_cons (ev_frz (evL_lst ea_nil)) ea_nil)))) (ev_var 6 rfl (.inl rfl))))))) (es_one (es_ret ev_bl)) es_nil)
    (es_cons (es_if (ev_cmpT (op_dNe hr.units) rfl (ev_var 2 rfl (.inl rfl)) (ev_frz (evL_lst ea_nil))) (es_cons (es_asg (ev_ix (ev_var 2 rfl (.inl rfl)) (ev_callB (ok__law_dip X G c) hr (by decide) nr (by rfl) (ea_cons (ev_var 0 rfl (.inl rfl)) (ea_cons (ev_cb cb_len (by rfl) (fr_len X G c) boot_len (ea_cons (ev_var 2 rfl (.inl rfl)) ea_nil)) ea_nil))) (fun _ _ => rfl)) (eg_tup rfl (egs_cons (eg_name 12 sc__law_right.nd rfl (.inl rfl)) (egs_cons (eg_name 13 sc__law_right.nd rfl (.inl rfl)) (egs_cons (eg_name 14 sc__law_right.nd rfl (.inl rfl)) egs_nil)))))
    (es_cons (es_set (i := 15) sc__law_right.nd rfl (.inl rfl) (ev_makeA (NM := NMf) (c := 0) (ok_Profile___init__ X G c) hr (by decide) nr rfl (He.mkr_ok (c.fact 3 rfl)) (He.glo_ok X G (c.fact 4 rfl)) (by rfl) (ea_cons ev_int (ea_cons (ev_frz (evL_lst (ea_cons (ev_tup (ea_cons (ev_bin op_dAdd (ev_var 13 rfl (.inl rfl)) ev_int) (ea_cons (ev_bin op_dAdd (ev_bin op_dAdd (ev_var 13 rfl (.inl rfl)) ev_int) (ev_callB (ok__law_dip X G c) hr (by decide) nr (by rfl) (ea_cons (ev_var 0 rfl (.inl rfl)) (ea_cons ev_int ea_nil)))) (ea_cons (ev_var 14 rfl (.inl rfl)) ea_nil)))) ea_nil))) ea_nil))))
    (es_one (es_if (ev_cmpT (op_dNe hr.units) rfl (ev_callB (ok__law_shown X G c) hr (by decide) nr (by rfl) (ea_cons (ev_binM (op_binA (c := 0) (ok_Profile___add__ X G c) hr (by decide) nr (bnA_Profile_Add c)) (ev_var 6 rfl (.inl rfl)) (ev_var 15 rfl (.inl rfl))) ea_nil)) (ev_cb (cb_repr hr.units nr) (by rfl) (fr_repr X G c) boot_repr (ea_cons (ev_frz (evL_lst (ea_cons (ev_var 1 rfl (.inl rfl)) (ea_cons (ev_callB (ok__law_both X G c) hr (by decide) nr (by rfl) (ea_cons (ev_var 2 rfl (.inl rfl)) (ea_cons (ev_frz (evL_propA (NM := NMf) (c := 0) (ok_Profile_pieces X G c) hr (by decide) nr rfl (He.cls_ok (c.fact 0 rfl)) (c.prop 1 (p := ⟨"Profile", "pieces"⟩) rfl) (ev_var 15 rfl (.inl rfl)))) ea_nil))) ea_nil)))) ea_nil))) (es_one (es_ret ev_bl)) es_nil)))) es_nil)
    (es_one (es_ret (ev_cmp (op_dEq hr.units) rfl (ev_frz (evL_lst (ea_cons (ev_callB (ok__law_shown X G c) hr (by decide) nr (by rfl) (ea_cons (ev_var 6 rfl (.inl rfl)) ea_nil)) (ea_cons (ev_callB (ok__law_shown X G c) hr (by decide) nr (by rfl) (ea_cons (ev_var 7 rfl (.inl rfl)) ea_nil)) ea_nil)))) (ev_var 8 rfl (.inl rfl))))))))))))))))
theorem fnG_law (X : K.In h) (G : h.Ns mainGlobals mg) (c : SaysW fa pr op bn xf fn K) (fd : FuncData) (F : FunD K "law" "law" (defArgs s_law) (defBody s_law) (defScope s_law) [] [] (He.ga K "law") fd) : FnG P w K mg base 10 (He.ga K "law") fd ["script"] (spD K (TT K) 1 g_law) :=
    fn_D F sc_law fun cdv A outer s H E hr nr =>
    (es_cons (es_for PassesOwn.never rfl (ei_range1 (by rfl) (fr_range X G c) (ea_cons (ev_cb (cb_max2 rfl) (by rfl) (fr_max X G c) boot_max (ea_cons ev_int (ea_cons (ev_cb (cb_min2 rfl) (by rfl) (fr_min X G c) boot_min (ea_cons ev_int (ea_cons (ev_cb cb_len (by rfl) (fr_len X G c) boot_len (ea_cons (ev_var 0 rfl (.inl rfl)) ea_nil)) ea_nil))) ea_nil))) ea_nil)) (eg_name 1 sc_law.nd rfl (.inl rfl)) (es_cons (es_set (i := 2) sc_law.nd rfl (.inl rfl) (ev_cell (evL_callB (ok__law_pond X G c) hr (by decide) nr (by rfl) (ea_cons (ev_var 0 rfl (.inl rfl)) (ea_cons (ev_var 1 rfl (.inl rfl)) ea_nil)))))
    (es_cons (es_for PassesOwn.never rfl (ei_range1 (by rfl) (fr_range X G c) (ea_cons ev_int ea_nil)) (eg_name 3 sc_law.nd rfl (.inl rfl)) (es_cons (es_set (i := 4) sc_law.nd rfl (.inl rfl) (ev_ix (ev_frz (evL_lst (ea_cons ev_int (ea_cons (ev_bin op_dPow ev_int ev_int) ea_nil)))) (ev_bin op_dMod (ev_var 3 rfl (.inl rfl)) ev_int) (fun _ _ => rfl)))
    (es_cons (es_par (i := 5) (j := 6) rfl sc_law.nd rfl rfl (by decide) rfl rfl (ea_cons (ev_frz (evL_callB (ok__law_given X G c) hr (by decide) nr (by rfl) (ea_cons (ev_var 2 rfl (.inl rfl)) (ea_cons (ev_var 4 rfl (.inl rfl)) ea_nil)))) (ea_cons (ev_frz (evL_callB (ok__law_given X G c) hr (by decide) nr (by rfl) (ea_cons (ev_var 2 rfl (.inl rfl)) (ea_cons (ev_var 4 rfl (.inl rfl)) ea_nil)))) ea_nil)) rfl)
    (es_one (es_if (evt_not (ev_val (ev_callB (ok__law_right X G c) hr (by decide) nr (by rfl) (ea_cons (ev_var 2 rfl (.inl rfl)) (ea_cons (ev_callB (ok__law_dip X G c) hr (by decide) nr (by rfl) (ea_cons (ev_var 2 rfl (.inl rfl)) (ea_cons (ev_var 4 rfl (.inl rfl)) ea_nil))) (ea_cons (ev_var 5 rfl (.inl rfl)) (ea_cons (ev_var 6 rfl (.inl rfl)) (ea_cons (ev_var 4 rfl (.inl rfl)) ea_nil)))))))) (es_one (es_ret ev_bl)) es_nil)))))
    (es_one (es_if (evt_of (evw_and (ev_cmpT (op_dEq hr.units) rfl (ev_var 1 rfl (.inl rfl)) ev_int) (evw_and1 (evt_not (ev_val (ev_callB (ok__law_right X G c) hr (by decide) nr (by rfl) (ea_cons (ev_var 2 rfl (.inl rfl)) (ea_cons ev_int (ea_cons (ev_frz (evL_callB (ok__law_many X G c) hr (by decide) nr (by rfl) (ea_cons (ev_var 2 rfl (.inl rfl)) (ea_cons ev_int ea_nil)))) (ea_cons (ev_frz (evL_callB (ok__law_many X G c) hr (by decide) nr (by rfl) (ea_cons (ev_var 2 rfl (.inl rfl)) (ea_cons ev_int ea_nil)))) (ea_cons ev_int ea_nil))))))))))) (es_one (es_ret ev_bl)) es_nil)))))
    (es_cons (es_par (i := 7) (j := 8) rfl sc_law.nd rfl rfl (by decide) rfl rfl (ea_cons (ev_makeA (NM := NMf) (c := 0) (ok_Profile___init__ X G c) hr (by decide) nr rfl (He.mkr_ok (c.fact 3 rfl)) (He.glo_ok X G (c.fact 4 rfl)) (by rfl) (ea_cons ev_int (ea_cons (ev_frz (evL_lst (ea_cons (ev_tup (ea_cons ev_int (ea_cons ev_int (ea_cons ev_int ea_nil)))) (ea_cons (ev_tup (ea_cons ev_int (ea_cons ev_int (ea_cons ev_int ea_nil)))) ea_nil)))) ea_nil))) (ea_cons (ev_makeA (NM := NMf) (c := 0) (ok_Profile___init__ X G c) hr (by decide) nr rfl (He.mkr_ok (c.fact 3 rfl)) (He.glo_ok X G (c.fact 4 rfl)) (by rfl) (ea_cons ev_int (ea_cons (ev_frz (evL_lst (ea_cons (ev_tup (ea_cons ev_int (ea_cons ev_int (ea_cons ev_int ea_nil)))) (ea_cons (ev_tup (ea_cons ev_int (ea_cons ev_int (ea_cons ev_int ea_nil)))) ea_nil)))) ea_nil))) ea_nil)) rfl)
    (es_one (es_ret (ev_and (ev_cmp (op_dEq hr.units) rfl (ev_callB (ok__law_shown X G c) hr (by decide) nr (by rfl) (ea_cons (ev_binM (op_binA (c := 0) (ok_Profile___add__ X G c) hr (by decide) nr (bnA_Profile_Add c)) (ev_var 7 rfl (.inl rfl)) (ev_var 8 rfl (.inl rfl))) ea_nil)) (ev_str (by decide +kernel))) (ev_one (ev_cmp (op_dEq hr.units) rfl (ev_callB (ok__law_shown X G c) hr (by decide) nr (by rfl) (ea_cons (ev_binM (op_binA (c := 0) (ok_Profile___mul__ X G c) hr (by decide) nr (bnA_Profile_Mult c)) (ev_var 8 rfl (.inl rfl)) ev_int) ea_nil)) (ev_str (by decide +kernel)))))))))
end
/-! ### fields and methods by forms -/
section
variable {S : Cells} {l : List D}
theorem ff_Profile_own_cold {x0 x1 : D} : fldD NMf [0] "own_cold" (.obj 0 [x0, x1]) S = some x0 := nrfl rfl
theorem ff_Profile_own_pieces {x0 x1 : D} : fldD NMf [0] "own_pieces" (.obj 0 [x0, x1]) S = some x1 := nrfl rfl
theorem fm_Profile_cold : isC NMf 0 "cold" (.obj 0 l) S = some () := by
  unfold isC
  exact if_pos ⟨rfl, by decide +kernel⟩
theorem fm_Profile_pieces : isC NMf 0 "pieces" (.obj 0 l) S = some () := by
  unfold isC
  exact if_pos ⟨rfl, by decide +kernel⟩
end
end K15
end
section
set_option maxHeartbeats 4000000
set_option exponentiation.threshold 3000
namespace K15
open PySem PySem.Spec L2 DL
open PyProof.Rows hiding St
open Lean in
local macro_rules | `(tactic| push_cast [$ts,*]) => `(tactic| simp only [↓DL.r0, ↓DL.r1, ↓DL.r2, ↓DL.r3, ↓DL.r4, ↓DL.r5, ↓DL.r6, ↓DL.r7, ↓DL.r8, ↓DL.r9, ↓DL.r10, ↓DL.r11, ↓DL.r12, ↓DL.r13, ↓DL.r14, ↓DL.r15, ↓DL.r16, ↓DL.r17, ↓DL.r18, ↓DL.r19, ↓DL.r20, ↓DL.r21, ↓DL.r22, ↓DL.r23, ↓DL.r24, ↓DL.r25, ↓DL.r26, ↓DL.r27, ↓DL.r28, ↓DL.r29, DL.s0, DL.s1, DL.s2, DL.s3, DL.s4, DL.s5, DL.s6, DL.s7, DL.s8, DL.s9, DL.s10, DL.s11, DL.s12, DL.s13, DL.s14, DL.s15, DL.s16, DL.s17, DL.s18, DL.s19, DL.s20, DL.s21, DL.s22, DL.s23, DL.s24, DL.s25, DL.s26, DL.s27, DL.s28, DL.s29, DL.startD_cons, DL.startD_nil, DL.startD_zero, ↓DL.w_ok, ↓DL.w_some, ↓DL.w_somec, ↓DL.w_bind, ↓DL.w_opt, ↓DL.w_chg, ↓DL.w_kon, ↓DL.w_calm, ↓DL.w_b2, ↓DL.w_b2L, ↓DL.w_b1, ↓DL.wB_bl, ↓DL.w_asB, ↓DL.w_b2T, ↓DL.w_chE, ↓DL.w_chT, ↓DL.w_not, ↓DL.w_val, ↓DL.w_notE, ↓DL.w_ifE, ↓DL.w_ifL, ↓DL.w_andM, ↓DL.w_orM, ↓DL.w_andE, ↓DL.w_orE, ↓DL.w_nil, ↓DL.w_cons, ↓DL.w_tup, ↓DL.w_lst, ↓DL.w_frz, ↓DL.w_new, ↓DL.w_cel, ↓DL.w_cb, ↓DL.w_cbL, ↓DL.w_call, ↓DL.w_callL, ↓DL.w_ar0, ↓DL.w_ar1, ↓DL.w_ar2, ↓DL.w_ar3, ↓DL.w_ar4, ↓DL.w_ar5, ↓DL.w_ar6, ↓DL.w_noO, ↓DL.w_smO, ↓DL.w_sl, ↓DL.w_slL, ↓DL.w_rev, ↓DL.w_step, ↓DL.w_isi, ↓DL.w_sets, ↓DL.w_lrg, ↓DL.w_mth, ↓DL.w_mth0, ↓DL.w_itS, ↓DL.w_itR1, ↓DL.w_itR2, ↓DL.w_itR3, ↓DL.w_itZ, ↓DL.w_itN, ↓DL.w_lc, ↓DL.w_nx, ↓DL.w_rt, ↓DL.w_seq, ↓DL.w_set, ↓DL.wPar_2, ↓DL.w_par, ↓DL.w_aug, ↓DL.w_sto, ↓DL.w_exp, ↓DL.w_ret, ↓DL.w_retN, ↓DL.w_nxS, ↓DL.w_ifS, ↓DL.w_for, ↓DL.w_asg, ↓DL.w_stk, ↓DL.w_body, ↓DL.w_bodyL, ↓DL.wret_non, ↓DL.wret_bl, ↓DL.wret_int, ↓DL.wret_str, ↓DL.wif_t, ↓DL.wif_f, ↓DL.wif_d, ↓DL.wif_n, ↓DL.wif_a, ↓DL.wif_o, DL.few0, DL.few1, DL.few2, DL.few3, DL.few4, DL.few5, DL.few6, DL.few7, DL.few8, DL.few9, DL.few10, true_and, and_true, ↓DL.a_nm, ↓DL.a_tp1, ↓DL.a_tp2, ↓DL.a_tp3, ↓DL.a_tp4, ↓DL.a_tp5, ↓DL.a_tpn, ↓DL.a_tpm, ↓DL.a_encP, DL.wipe_nil, DL.wipe_cons, DL.o_add, DL.o_sub, DL.o_neg, ↓DL.o_mul, ↓DL.o_div, ↓DL.o_mod, DL.o_pow, ↓DL.o_p10_3, ↓DL.o_p10_4, ↓DL.o_p10_6, ↓DL.o_p10_8, ↓DL.o_p10_9, ↓DL.o_p10_12, ↓DL.o_p10_15, ↓DL.o_p10_18, ↓DL.o_p10_20, ↓DL.o_p10_25, ↓DL.o_p10_26, ↓DL.o_p10_27, ↓DL.o_p10_28, ↓DL.o_p10_29, ↓DL.o_p10_30, ↓DL.o_p10_31, ↓DL.o_p10_36, ↓DL.o_p10_38, ↓DL.o_p10_40, ↓DL.o_p10_42, ↓DL.o_p10_44, ↓DL.o_p10_46, ↓DL.o_p10_48, ↓DL.o_p10_50, ↓DL.o_p10_60, ↓DL.o_p10_64, ↓DL.o_p10_70, ↓DL.o_p10_90, ↓DL.o_p10_99, ↓DL.o_p10_100, ↓DL.o_addS, ↓DL.o_addT, ↓DL.o_catL, ↓DL.o_addL, DL.o_lt, DL.o_le, DL.o_gt, DL.o_ge, DL.o_eqI, DL.o_neI, DL.o_eqS, DL.o_neS, DL.o_is, DL.o_isn, DL.n_non, DL.n_bl, DL.n_int, DL.n_str, DL.n_lst, DL.n_tup, DL.n_ref, DL.n_obj, DL.i_non_int, DL.i_non_bool, DL.i_non_str, DL.i_non_list, DL.i_non_tuple, DL.i_bl_int, DL.i_bl_bool, DL.i_bl_str, DL.i_bl_list, DL.i_bl_tuple, DL.i_int_int, DL.i_int_bool, DL.i_int_str, DL.i_int_list, DL.i_int_tuple, DL.i_str_int, DL.i_str_bool, DL.i_str_str, DL.i_str_list, DL.i_str_tuple, DL.i_lst_int, DL.i_lst_bool, DL.i_lst_str, DL.i_lst_list, DL.i_lst_tuple, DL.i_tup_int, DL.i_tup_bool, DL.i_tup_str, DL.i_tup_list, DL.i_tup_tuple, DL.t_non, DL.t_bl, DL.t_int, DL.t_lst, DL.t_tup, ↓DL.x_lst, ↓DL.x_tup, ↓DL.x_encP0, ↓DL.x_encP1, DL.ixn1_0, DL.ixn1_m1, DL.ixn2_0, DL.ixn2_1, DL.ixn2_m1, DL.ixn3_0, DL.ixn3_1, DL.ixn3_2, DL.ixn3_m1, DL.ixn4_0, DL.ixn4_1, DL.ixn4_2, DL.ixn4_3, DL.ixn4_m1, DL.ixn5_0, DL.ixn5_1, DL.ixn5_2, DL.ixn5_3, DL.ixn5_4, DL.ixn5_m1, DL.ixn6_0, DL.ixn6_1, DL.ixn6_2, DL.ixn6_3, DL.ixn6_4, DL.ixn6_5, DL.ixn6_m1, DL.ixn7_0, DL.ixn7_1, DL.ixn7_2, DL.ixn7_3, DL.ixn7_4, DL.ixn7_5, DL.ixn7_6, DL.ixn7_m1, DL.ixn8_0, DL.ixn8_1, DL.ixn8_2, DL.ixn8_3, DL.ixn8_4, DL.ixn8_5, DL.ixn8_6, DL.ixn8_7, DL.ixn8_m1, ↓DL.x1_0, ↓DL.x1_m1, ↓DL.x2_0, ↓DL.x2_1, ↓DL.x2_m1, ↓DL.x3_0, ↓DL.x3_1, ↓DL.x3_2, ↓DL.x3_m1, ↓DL.x4_0, ↓DL.x4_1, ↓DL.x4_2, ↓DL.x4_3, ↓DL.x4_m1, ↓DL.x5_0, ↓DL.x5_1, ↓DL.x5_2, ↓DL.x5_3, ↓DL.x5_4, ↓DL.x5_m1, ↓DL.x6_0, ↓DL.x6_1, ↓DL.x6_2, ↓DL.x6_3, ↓DL.x6_4, ↓DL.x6_5, ↓DL.x6_m1, ↓DL.x7_0, ↓DL.x7_1, ↓DL.x7_2, ↓DL.x7_3, ↓DL.x7_4, ↓DL.x7_5, ↓DL.x7_6, ↓DL.x7_m1, ↓DL.x8_0, ↓DL.x8_1, ↓DL.x8_2, ↓DL.x8_3, ↓DL.x8_4, ↓DL.x8_5, ↓DL.x8_6, ↓DL.x8_7, ↓DL.x8_m1, DL.c_abs, DL.c_max2, DL.c_min2, DL.c_int, DL.c_intb, DL.c_lenS, DL.c_lenT, DL.c_lenL, DL.c_listT, DL.c_listL, DL.c_tupT, DL.c_tupL, DL.c_sum, DL.c_sum0, DL.c_all, DL.c_any, DL.c_minP, DL.c_maxP, DL.c_sortP, DL.c_zip, DL.c_enum, DL.c_range1, DL.c_range2, DL.g_lst, DL.g_tup, DL.g_str, DL.p_int, DL.sq_lst, DL.sl_lst, DL.sl_tup, DL.sl_str, DL.slL_lst, DL.om_some, List.set_cons_zero, List.set_cons_succ, DL.m_tyL, DL.m_tyS, DL.m_ty, DL.m_app, DL.m_sto, DL.m_fzL, DL.m_fzI, DL.m_fzT, DL.m_fz, DL.x_ref, DL.c_lenR, DL.c_listR, DL.c_tupR, DL.sl_ref, DL.atL_new, DL.atL_new1, DL.atL_new2, DL.atL_old, DL.set_new, DL.set_new1, DL.set_new2, DL.set_old, DL.take_app, DL.app_app, DL.cons_app, DL.nil_app, DL.len_app1, DL.len_app2, DL.len_app3, DL.len_set, DL.seq_new, DL.seq_new1, DL.seq_new2, DL.seq_old, DL.ex_some, DL.fl_non, DL.fl_int, DL.fl_bl, DL.fl_str, DL.fl_tup, DL.fl_lst, DL.fl_obj, DL.fl_nil, DL.fl_cons, DL.fl_app, DL.fl_encP, Bool.and_self, Bool.and_true, Bool.true_and, List.set_set, ↓DL.w_yes, ↓DL.w_fld, ↓DL.w_mt, ↓DL.w_mtL, ↓DL.w_mt0, ↓DL.w_mt0L, ↓DL.w_ic, DL.isO_obj, ↓DL.w_make, ↓DL.w_b2M, ↓DL.w_b2MT, ↓DL.w_uM, ↓DL.w_inv, ↓DL.w_bin_obj, ↓DL.w_bin_int, ↓DL.w_fldS, DL.m_fld, DL.atI_new, DL.putD, ↓DL.w_repL, ↓DL.w_isiC, ↓DL.w_par3, ↓DL.wPar3_3, DL.m_count, DL.wretL_new, DL.wret_new, ↓DL.c_setSort, List.take_length, List.length_cons, List.length_nil, List.length_map, Int.cast_ofNat_Int, Bool.not_true, Bool.not_false, Int.reduceAdd, Int.reduceSub, Int.reduceMul, Int.reduceNeg, Int.reduceEq, Int.reduceLT, Int.reduceLE, Nat.reduceAdd, Nat.reduceSub, eq_self, not_true_eq_false, not_false_eq_true, false_implies, implies_true, true_implies, $ts,*])
open Lean in
local macro_rules | `(tactic| push_cast) => `(tactic| simp only [↓DL.r0, ↓DL.r1, ↓DL.r2, ↓DL.r3, ↓DL.r4, ↓DL.r5, ↓DL.r6, ↓DL.r7, ↓DL.r8, ↓DL.r9, ↓DL.r10, ↓DL.r11, ↓DL.r12, ↓DL.r13, ↓DL.r14, ↓DL.r15, ↓DL.r16, ↓DL.r17, ↓DL.r18, ↓DL.r19, ↓DL.r20, ↓DL.r21, ↓DL.r22, ↓DL.r23, ↓DL.r24, ↓DL.r25, ↓DL.r26, ↓DL.r27, ↓DL.r28, ↓DL.r29, DL.s0, DL.s1, DL.s2, DL.s3, DL.s4, DL.s5, DL.s6, DL.s7, DL.s8, DL.s9, DL.s10, DL.s11, DL.s12, DL.s13, DL.s14, DL.s15, DL.s16, DL.s17, DL.s18, DL.s19, DL.s20, DL.s21, DL.s22, DL.s23, DL.s24, DL.s25, DL.s26, DL.s27, DL.s28, DL.s29, DL.startD_cons, DL.startD_nil, DL.startD_zero, ↓DL.w_ok, ↓DL.w_some, ↓DL.w_somec, ↓DL.w_bind, ↓DL.w_opt, ↓DL.w_chg, ↓DL.w_kon, ↓DL.w_calm, ↓DL.w_b2, ↓DL.w_b2L, ↓DL.w_b1, ↓DL.wB_bl, ↓DL.w_asB, ↓DL.w_b2T, ↓DL.w_chE, ↓DL.w_chT, ↓DL.w_not, ↓DL.w_val, ↓DL.w_notE, ↓DL.w_ifE, ↓DL.w_ifL, ↓DL.w_andM, ↓DL.w_orM, ↓DL.w_andE, ↓DL.w_orE, ↓DL.w_nil, ↓DL.w_cons, ↓DL.w_tup, ↓DL.w_lst, ↓DL.w_frz, ↓DL.w_new, ↓DL.w_cel, ↓DL.w_cb, ↓DL.w_cbL, ↓DL.w_call, ↓DL.w_callL, ↓DL.w_ar0, ↓DL.w_ar1, ↓DL.w_ar2, ↓DL.w_ar3, ↓DL.w_ar4, ↓DL.w_ar5, ↓DL.w_ar6, ↓DL.w_noO, ↓DL.w_smO, ↓DL.w_sl, ↓DL.w_slL, ↓DL.w_rev, ↓DL.w_step, ↓DL.w_isi, ↓DL.w_sets, ↓DL.w_lrg, ↓DL.w_mth, ↓DL.w_mth0, ↓DL.w_itS, ↓DL.w_itR1, ↓DL.w_itR2, ↓DL.w_itR3, ↓DL.w_itZ, ↓DL.w_itN, ↓DL.w_lc, ↓DL.w_nx, ↓DL.w_rt, ↓DL.w_seq, ↓DL.w_set, ↓DL.wPar_2, ↓DL.w_par, ↓DL.w_aug, ↓DL.w_sto, ↓DL.w_exp, ↓DL.w_ret, ↓DL.w_retN, ↓DL.w_nxS, ↓DL.w_ifS, ↓DL.w_for, ↓DL.w_asg, ↓DL.w_stk, ↓DL.w_body, ↓DL.w_bodyL, ↓DL.wret_non, ↓DL.wret_bl, ↓DL.wret_int, ↓DL.wret_str, ↓DL.wif_t, ↓DL.wif_f, ↓DL.wif_d, ↓DL.wif_n, ↓DL.wif_a, ↓DL.wif_o, DL.few0, DL.few1, DL.few2, DL.few3, DL.few4, DL.few5, DL.few6, DL.few7, DL.few8, DL.few9, DL.few10, true_and, and_true, ↓DL.a_nm, ↓DL.a_tp1, ↓DL.a_tp2, ↓DL.a_tp3, ↓DL.a_tp4, ↓DL.a_tp5, ↓DL.a_tpn, ↓DL.a_tpm, ↓DL.a_encP, DL.wipe_nil, DL.wipe_cons, DL.o_add, DL.o_sub, DL.o_neg, ↓DL.o_mul, ↓DL.o_div, ↓DL.o_mod, DL.o_pow, ↓DL.o_p10_3, ↓DL.o_p10_4, ↓DL.o_p10_6, ↓DL.o_p10_8, ↓DL.o_p10_9, ↓DL.o_p10_12, ↓DL.o_p10_15, ↓DL.o_p10_18, ↓DL.o_p10_20, ↓DL.o_p10_25, ↓DL.o_p10_26, ↓DL.o_p10_27, ↓DL.o_p10_28, ↓DL.o_p10_29, ↓DL.o_p10_30, ↓DL.o_p10_31, ↓DL.o_p10_36, ↓DL.o_p10_38, ↓DL.o_p10_40, ↓DL.o_p10_42, ↓DL.o_p10_44, ↓DL.o_p10_46, ↓DL.o_p10_48, ↓DL.o_p10_50, ↓DL.o_p10_60, ↓DL.o_p10_64, ↓DL.o_p10_70, ↓DL.o_p10_90, ↓DL.o_p10_99, ↓DL.o_p10_100, ↓DL.o_addS, ↓DL.o_addT, ↓DL.o_catL, ↓DL.o_addL, DL.o_lt, DL.o_le, DL.o_gt, DL.o_ge, DL.o_eqI, DL.o_neI, DL.o_eqS, DL.o_neS, DL.o_is, DL.o_isn, DL.n_non, DL.n_bl, DL.n_int, DL.n_str, DL.n_lst, DL.n_tup, DL.n_ref, DL.n_obj, DL.i_non_int, DL.i_non_bool, DL.i_non_str, DL.i_non_list, DL.i_non_tuple, DL.i_bl_int, DL.i_bl_bool, DL.i_bl_str, DL.i_bl_list, DL.i_bl_tuple, DL.i_int_int, DL.i_int_bool, DL.i_int_str, DL.i_int_list, DL.i_int_tuple, DL.i_str_int, DL.i_str_bool, DL.i_str_str, DL.i_str_list, DL.i_str_tuple, DL.i_lst_int, DL.i_lst_bool, DL.i_lst_str, DL.i_lst_list, DL.i_lst_tuple, DL.i_tup_int, DL.i_tup_bool, DL.i_tup_str, DL.i_tup_list, DL.i_tup_tuple, DL.t_non, DL.t_bl, DL.t_int, DL.t_lst, DL.t_tup, ↓DL.x_lst, ↓DL.x_tup, ↓DL.x_encP0, ↓DL.x_encP1, DL.ixn1_0, DL.ixn1_m1, DL.ixn2_0, DL.ixn2_1, DL.ixn2_m1, DL.ixn3_0, DL.ixn3_1, DL.ixn3_2, DL.ixn3_m1, DL.ixn4_0, DL.ixn4_1, DL.ixn4_2, DL.ixn4_3, DL.ixn4_m1, DL.ixn5_0, DL.ixn5_1, DL.ixn5_2, DL.ixn5_3, DL.ixn5_4, DL.ixn5_m1, DL.ixn6_0, DL.ixn6_1, DL.ixn6_2, DL.ixn6_3, DL.ixn6_4, DL.ixn6_5, DL.ixn6_m1, DL.ixn7_0, DL.ixn7_1, DL.ixn7_2, DL.ixn7_3, DL.ixn7_4, DL.ixn7_5, DL.ixn7_6, DL.ixn7_m1, DL.ixn8_0, DL.ixn8_1, DL.ixn8_2, DL.ixn8_3, DL.ixn8_4, DL.ixn8_5, DL.ixn8_6, DL.ixn8_7, DL.ixn8_m1, ↓DL.x1_0, ↓DL.x1_m1, ↓DL.x2_0, ↓DL.x2_1, ↓DL.x2_m1, ↓DL.x3_0, ↓DL.x3_1, ↓DL.x3_2, ↓DL.x3_m1, ↓DL.x4_0, ↓DL.x4_1, ↓DL.x4_2, ↓DL.x4_3, ↓DL.x4_m1, ↓DL.x5_0, ↓DL.x5_1, ↓DL.x5_2, ↓DL.x5_3, ↓DL.x5_4, ↓DL.x5_m1, ↓DL.x6_0, ↓DL.x6_1, ↓DL.x6_2, ↓DL.x6_3, ↓DL.x6_4, ↓DL.x6_5, ↓DL.x6_m1, ↓DL.x7_0, ↓DL.x7_1, ↓DL.x7_2, ↓DL.x7_3, ↓DL.x7_4, ↓DL.x7_5, ↓DL.x7_6, ↓DL.x7_m1, ↓DL.x8_0, ↓DL.x8_1, ↓DL.x8_2, ↓DL.x8_3, ↓DL.x8_4, ↓DL.x8_5, ↓DL.x8_6, ↓DL.x8_7, ↓DL.x8_m1, DL.c_abs, DL.c_max2, DL.c_min2, DL.c_int, DL.c_intb, DL.c_lenS, DL.c_lenT, DL.c_lenL, DL.c_listT, DL.c_listL, DL.c_tupT, DL.c_tupL, DL.c_sum, DL.c_sum0, DL.c_all, DL.c_any, DL.c_minP, DL.c_maxP, DL.c_sortP, DL.c_zip, DL.c_enum, DL.c_range1, DL.c_range2, DL.g_lst, DL.g_tup, DL.g_str, DL.p_int, DL.sq_lst, DL.sl_lst, DL.sl_tup, DL.sl_str, DL.slL_lst, DL.om_some, List.set_cons_zero, List.set_cons_succ, DL.m_tyL, DL.m_tyS, DL.m_ty, DL.m_app, DL.m_sto, DL.m_fzL, DL.m_fzI, DL.m_fzT, DL.m_fz, DL.x_ref, DL.c_lenR, DL.c_listR, DL.c_tupR, DL.sl_ref, DL.atL_new, DL.atL_new1, DL.atL_new2, DL.atL_old, DL.set_new, DL.set_new1, DL.set_new2, DL.set_old, DL.take_app, DL.app_app, DL.cons_app, DL.nil_app, DL.len_app1, DL.len_app2, DL.len_app3, DL.len_set, DL.seq_new, DL.seq_new1, DL.seq_new2, DL.seq_old, DL.ex_some, DL.fl_non, DL.fl_int, DL.fl_bl, DL.fl_str, DL.fl_tup, DL.fl_lst, DL.fl_obj, DL.fl_nil, DL.fl_cons, DL.fl_app, DL.fl_encP, Bool.and_self, Bool.and_true, Bool.true_and, List.set_set, ↓DL.w_yes, ↓DL.w_fld, ↓DL.w_mt, ↓DL.w_mtL, ↓DL.w_mt0, ↓DL.w_mt0L, ↓DL.w_ic, DL.isO_obj, ↓DL.w_make, ↓DL.w_b2M, ↓DL.w_b2MT, ↓DL.w_uM, ↓DL.w_inv, ↓DL.w_bin_obj, ↓DL.w_bin_int, ↓DL.w_fldS, DL.m_fld, DL.atI_new, DL.putD, ↓DL.w_repL, ↓DL.w_isiC, ↓DL.w_par3, ↓DL.wPar3_3, DL.m_count, DL.wretL_new, DL.wret_new, ↓DL.c_setSort, List.take_length, List.length_cons, List.length_nil, List.length_map, Int.cast_ofNat_Int, Bool.not_true, Bool.not_false, Int.reduceAdd, Int.reduceSub, Int.reduceMul, Int.reduceNeg, Int.reduceEq, Int.reduceLT, Int.reduceLE, Nat.reduceAdd, Nat.reduceSub, eq_self, not_true_eq_false, not_false_eq_true, false_implies, implies_true, true_implies])
/-! profiles: the parts -/
def encT (p : MP.T) : D := .tup [.int p.1, .int p.2.1, .int p.2.2]
section
variable {S : Cells}
theorem z24 : sizeLine = 16777216 := by decide
theorem fl_encT {p : MP.T} : (encT p).flat = true := by rw [encT, fl_tup, fl_cons, fl_cons, fl_cons, fl_int, fl_int, fl_int]; rfl
theorem fl_ts {l : List MP.T} : flatL (l.map encT) = true := fl_map fun _ _ => fl_encT
theorem is_int_int (i : Int) : g_is_int [.int i] S = .ok (.bl true) S := by
  refine wp_ok ?_
  push_cast [g_is_int, B_is_int]
theorem in_range_lo {i lo : Int} (h : lo ≤ i) : g_in_range [.int i, .int lo, .non] S = .ok (.bl true) S := by
  refine wp_ok ?_
  push_cast [g_in_range, B_in_range, is_int_int]
  exact fun q => absurd h q
theorem is_piece_ok {p : MP.T} (h : 1 ≤ p.1 ∧ p.1 ≤ p.2.1 ∧ 1 ≤ p.2.2) : g_is_piece [encT p] S = .ok (.bl true) S := by
  refine wp_ok ?_
  push_cast [g_is_piece, B_is_piece, encT, in_range_lo h.1, in_range_lo h.2.1, in_range_lo h.2.2]
theorem row_loop {v0 v1 : Option D} {N : En → Cells → Prop} {Rt : D → Cells → Prop} {E : Xc → En → Cells → Prop} {x7 x8 x9 x10 x11 x12 x13 x14 x15 x16 : Option D} (es : List MP.P) (hz : es.length ≤ 100000)
    (h : ∀ (x5 x6 : Option D) (R : List MP.T) (o b : Int), es.foldl MP.rst ([], 0, 0) = (R, o, b) → R.length ≤ es.length → N [v0, v1, some (.ref S.length), some (.int o), some (.int b), x5, x6, x7, x8, x9, x10, x11, x12, x13, x14, x15, x16] (S ++ [⟨true, .lst (R.map encT)⟩])) :
    wo (forD (.tp [.nm 5, .nm 6]) L1_joined_pieces (es.map encP) [v0, v1, some (.ref S.length), some (.int 0), some (.int 0), none, none, x7, x8, x9, x10, x11, x12, x13, x14, x15, x16] (S ++ [⟨true, .lst []⟩])) N Rt E := by
  have zz := z24
  refine for_st (σ := (List MP.T × Int × Int) × List MP.P × Option D × Option D) encP
    (fun s => [v0, v1, some (.ref S.length), some (.int s.1.2.1), some (.int s.1.2.2), s.2.2.1, s.2.2.2, x7, x8, x9, x10, x11, x12, x13, x14, x15, x16]) (fun s => S ++ [⟨true, .lst (s.1.1.map encT)⟩])
    (fun s r => es = s.2.1 ++ r ∧ s.1 = s.2.1.foldl MP.rst ([], 0, 0) ∧ s.1.1.length ≤ s.2.1.length) es (([], 0, 0), [], none, none) ⟨rfl, rfl, Nat.le_refl _⟩ ?_ ?_
  · rintro ⟨⟨R, o, b⟩, A, x5, x6⟩ e r ⟨h1, h2, h3⟩
    simp only at h1 h2 h3
    have hl : es.length = A.length + (r.length + 1) := by rw [h1, List.length_append, List.length_cons]
    have hf : (A ++ [e]).foldl MP.rst ([], 0, 0) = MP.rst (R, o, b) e := by rw [List.foldl_append, ← h2]; rfl
    push_cast [L1_joined_pieces]
    refine ⟨fun hb => ⟨by omega, ((R ++ [(b, e.1 - 1, o)], o + e.2, e.1), A ++ [e], some (.int e.1), some (.int e.2)), rfl, ?_, ?_, ?_, ?_⟩, fun hb => ⟨((R, o + e.2, b), A ++ [e], some (.int e.1), some (.int e.2)), rfl, rfl, ?_, ?_, ?_⟩⟩
    · rw [List.map_append]; rfl
    · rw [h1, List.append_assoc]; rfl
    · rw [hf]; unfold MP.rst; rw [if_pos hb]
    · simp only [List.length_append, List.length_singleton]; omega
    · rw [h1, List.append_assoc]; rfl
    · rw [hf]; unfold MP.rst; rw [if_neg hb]
    · simp only [List.length_append, List.length_singleton]; omega
  · rintro ⟨⟨R, o, b⟩, A, x5, x6⟩ ⟨h1, h2, h3⟩
    simp only [List.append_nil] at h1 h2 h3
    subst h1
    exact h x5 x6 R o b h2.symm h3
theorem joined_ok {l : List MP.T} (hz : l.length ≤ 10000) : g_joined_pieces [.lst (l.map encT)] S = .ok (.lst ((MP.fin l).map encT)) S := by
  have zz := z24
  refine wp_ok ?_
  push_cast [g_joined_pieces, B_joined_pieces]
  refine comp_map_wp encT (fun p => encP (p.1, p.2.2)) l (fun a ha => ?_) ?_
  · unfold cStep
    push_cast [encT]
    rfl
  push_cast
  refine comp_map_wp encT (fun p => encP (p.2.1 + 1, 0 - p.2.2)) l (fun a ha => ?_) ?_
  · unfold cStep
    push_cast [encT]
    rfl
  push_cast
  refine ⟨by omega, ?_⟩
  rw [show l.map (fun p => encP (p.1, p.2.2)) ++ l.map (fun p => encP (p.2.1 + 1, 0 - p.2.2)) = (MP.evs l).map encP by unfold MP.evs; rw [List.map_append, List.map_map, List.map_map]; rfl]
  have hp := (MP.sortP_perm (MP.evs l)).length_eq
  have he : (MP.evs l).length = 2 * l.length := by unfold MP.evs; rw [List.length_append, List.length_map, List.length_map]; omega
  push_cast
  refine row_loop _ (by omega) fun x5 x6 R o b hR hl => ?_
  have eR : MP.rows (sortP (MP.evs l)) = R := by unfold MP.rows; rw [hR]
  have gz : ∀ {k : Nat}, k < R.length → R[k]? = some (R.getD k (0, 0, 0)) := fun {k} hk => by rw [List.getD_eq_getElem?_getD, List.getElem?_eq_getElem hk]; rfl
  push_cast [w_rangeN (show R.length ≤ sizeLine by omega)]
  refine comp_fil_wp (fun k : Nat => D.int k) (MG.tst MP.same (0, 0, 0) R) (fun k : Nat => D.int k) (List.range R.length) (fun k hk => ?_) ?_
  · have hk := List.mem_range.mp hk
    unfold cStep
    cases k with
    | zero => push_cast; rfl
    | succ j =>
      push_cast [wAt_map (enc := encT) (k := ((j + 1 : Nat) : Int)) rfl (gz hk), wAt_map (enc := encT) (k := ((j + 1 : Nat) : Int) - 1) (n := j) (by omega) (gz (by omega)), encT]
      have et : MG.tst MP.same (0, 0, 0) R (j + 1) = !decide ((R.getD (j + 1) (0, 0, 0)).2.2 = (R.getD j (0, 0, 0)).2.2) := rfl
      rw [et]
      exact ⟨fun q => by omega, fun _ => ⟨fun q => by rw [decide_eq_true q]; rfl, fun q => by rw [decide_eq_false q]; rfl⟩⟩
  have hb := MG.begs_len MP.same (0, 0, 0) R
  have eb : List.filter (MG.tst MP.same (0, 0, 0) R) (List.range R.length) = MG.begs MP.same (0, 0, 0) R := rfl
  push_cast [cut_1]
  rw [eb]
  refine ⟨by rw [List.length_drop, List.length_map]; omega, ?_⟩
  rw [← List.map_drop, show ((MG.begs MP.same (0, 0, 0) R).drop 1).map (fun k : Nat => D.int k) ++ [D.int (R.length : Nat)] = ((MG.begs MP.same (0, 0, 0) R).drop 1 ++ [R.length]).map fun k : Nat => D.int k by rw [List.map_append]; rfl, pairsD_map, MG.prs_zip]
  refine comp_map_wp (fun q : Nat × Nat => D.tup [.int q.1, .int q.2]) (fun q => encT (MP.mk (MG.pick (0, 0, 0) R q))) _ (fun q hq => ?_) ?_
  · obtain ⟨h1, h2⟩ := MG.prs_mem _ _ _ hq
    have h3 := MG.prs_lt _ _ (MG.begs_sorted MP.same (0, 0, 0) R) q hq
    have h4 := MG.begs_lt MP.same (0, 0, 0) h1
    have h5 : q.2 ≤ R.length := by
      rcases h2 with h2 | h2
      · exact Nat.le_of_lt (MG.begs_lt MP.same (0, 0, 0) h2)
      · omega
    unfold cStep
    push_cast [wAt_map (enc := encT) (k := (q.1 : Int)) rfl (gz h4), wAt_map (enc := encT) (k := (q.2 : Int) - 1) (n := q.2 - 1) (by omega) (gz (by omega)), encT]
    rfl
  have ej : (MG.prs (MG.begs MP.same (0, 0, 0) R) R.length).map (fun q => encT (MP.mk (MG.pick (0, 0, 0) R q))) = (MP.jn R).map encT := by
    unfold MP.jn
    rw [← (MG.begs_grp MP.same (0, 0, 0) R).1, List.map_map, List.map_map]
    rfl
  rw [ej]
  push_cast
  refine comp_fil_wp encT (fun r => decide (0 < r.2.2)) encT (MP.jn R) (fun r hr => ?_) ?_
  · unfold cStep
    push_cast [encT]
    exact ⟨fun q => by rw [decide_eq_true q]; rfl, fun q => by rw [decide_eq_false q]; rfl⟩
  have ef : (MP.jn R).filter (fun r => decide (0 < r.2.2)) = MP.fin l := by unfold MP.fin; rw [eR]
  rw [ef]
  push_cast [wret_flat (show (D.lst ((MP.fin l).map encT)).flat = true by rw [fl_lst]; exact fl_ts)]
end

end K15
end
section
set_option maxHeartbeats 4000000
set_option exponentiation.threshold 3000
namespace K15
open PySem PySem.Spec L2 DL
open PyProof.Rows hiding St
open Lean in
local macro_rules | `(tactic| push_cast [$ts,*]) => `(tactic| simp only [↓DL.r0, ↓DL.r1, ↓DL.r2, ↓DL.r3, ↓DL.r4, ↓DL.r5, ↓DL.r6, ↓DL.r7, ↓DL.r8, ↓DL.r9, ↓DL.r10, ↓DL.r11, ↓DL.r12, ↓DL.r13, ↓DL.r14, ↓DL.r15, ↓DL.r16, ↓DL.r17, ↓DL.r18, ↓DL.r19, ↓DL.r20, ↓DL.r21, ↓DL.r22, ↓DL.r23, ↓DL.r24, ↓DL.r25, ↓DL.r26, ↓DL.r27, ↓DL.r28, ↓DL.r29, DL.s0, DL.s1, DL.s2, DL.s3, DL.s4, DL.s5, DL.s6, DL.s7, DL.s8, DL.s9, DL.s10, DL.s11, DL.s12, DL.s13, DL.s14, DL.s15, DL.s16, DL.s17, DL.s18, DL.s19, DL.s20, DL.s21, DL.s22, DL.s23, DL.s24, DL.s25, DL.s26, DL.s27, DL.s28, DL.s29, DL.startD_cons, DL.startD_nil, DL.startD_zero, ↓DL.w_ok, ↓DL.w_some, ↓DL.w_somec, ↓DL.w_bind, ↓DL.w_opt, ↓DL.w_chg, ↓DL.w_kon, ↓DL.w_calm, ↓DL.w_b2, ↓DL.w_b2L, ↓DL.w_b1, ↓DL.wB_bl, ↓DL.w_asB, ↓DL.w_b2T, ↓DL.w_chE, ↓DL.w_chT, ↓DL.w_not, ↓DL.w_val, ↓DL.w_notE, ↓DL.w_ifE, ↓DL.w_ifL, ↓DL.w_andM, ↓DL.w_orM, ↓DL.w_andE, ↓DL.w_orE, ↓DL.w_nil, ↓DL.w_cons, ↓DL.w_tup, ↓DL.w_lst, ↓DL.w_frz, ↓DL.w_new, ↓DL.w_cel, ↓DL.w_cb, ↓DL.w_cbL, ↓DL.w_call, ↓DL.w_callL, ↓DL.w_ar0, ↓DL.w_ar1, ↓DL.w_ar2, ↓DL.w_ar3, ↓DL.w_ar4, ↓DL.w_ar5, ↓DL.w_ar6, ↓DL.w_noO, ↓DL.w_smO, ↓DL.w_sl, ↓DL.w_slL, ↓DL.w_rev, ↓DL.w_step, ↓DL.w_isi, ↓DL.w_sets, ↓DL.w_lrg, ↓DL.w_mth, ↓DL.w_mth0, ↓DL.w_itS, ↓DL.w_itR1, ↓DL.w_itR2, ↓DL.w_itR3, ↓DL.w_itZ, ↓DL.w_itN, ↓DL.w_lc, ↓DL.w_nx, ↓DL.w_rt, ↓DL.w_seq, ↓DL.w_set, ↓DL.wPar_2, ↓DL.w_par, ↓DL.w_aug, ↓DL.w_sto, ↓DL.w_exp, ↓DL.w_ret, ↓DL.w_retN, ↓DL.w_nxS, ↓DL.w_ifS, ↓DL.w_for, ↓DL.w_asg, ↓DL.w_stk, ↓DL.w_body, ↓DL.w_bodyL, ↓DL.wret_non, ↓DL.wret_bl, ↓DL.wret_int, ↓DL.wret_str, ↓DL.wif_t, ↓DL.wif_f, ↓DL.wif_d, ↓DL.wif_n, ↓DL.wif_a, ↓DL.wif_o, DL.few0, DL.few1, DL.few2, DL.few3, DL.few4, DL.few5, DL.few6, DL.few7, DL.few8, DL.few9, DL.few10, true_and, and_true, ↓DL.a_nm, ↓DL.a_tp1, ↓DL.a_tp2, ↓DL.a_tp3, ↓DL.a_tp4, ↓DL.a_tp5, ↓DL.a_tpn, ↓DL.a_tpm, ↓DL.a_encP, DL.wipe_nil, DL.wipe_cons, DL.o_add, DL.o_sub, DL.o_neg, ↓DL.o_mul, ↓DL.o_div, ↓DL.o_mod, DL.o_pow, ↓DL.o_p10_3, ↓DL.o_p10_4, ↓DL.o_p10_6, ↓DL.o_p10_8, ↓DL.o_p10_9, ↓DL.o_p10_12, ↓DL.o_p10_15, ↓DL.o_p10_18, ↓DL.o_p10_20, ↓DL.o_p10_25, ↓DL.o_p10_26, ↓DL.o_p10_27, ↓DL.o_p10_28, ↓DL.o_p10_29, ↓DL.o_p10_30, ↓DL.o_p10_31, ↓DL.o_p10_36, ↓DL.o_p10_38, ↓DL.o_p10_40, ↓DL.o_p10_42, ↓DL.o_p10_44, ↓DL.o_p10_46, ↓DL.o_p10_48, ↓DL.o_p10_50, ↓DL.o_p10_60, ↓DL.o_p10_64, ↓DL.o_p10_70, ↓DL.o_p10_90, ↓DL.o_p10_99, ↓DL.o_p10_100, ↓DL.o_addS, ↓DL.o_addT, ↓DL.o_catL, ↓DL.o_addL, DL.o_lt, DL.o_le, DL.o_gt, DL.o_ge, DL.o_eqI, DL.o_neI, DL.o_eqS, DL.o_neS, DL.o_is, DL.o_isn, DL.n_non, DL.n_bl, DL.n_int, DL.n_str, DL.n_lst, DL.n_tup, DL.n_ref, DL.n_obj, DL.i_non_int, DL.i_non_bool, DL.i_non_str, DL.i_non_list, DL.i_non_tuple, DL.i_bl_int, DL.i_bl_bool, DL.i_bl_str, DL.i_bl_list, DL.i_bl_tuple, DL.i_int_int, DL.i_int_bool, DL.i_int_str, DL.i_int_list, DL.i_int_tuple, DL.i_str_int, DL.i_str_bool, DL.i_str_str, DL.i_str_list, DL.i_str_tuple, DL.i_lst_int, DL.i_lst_bool, DL.i_lst_str, DL.i_lst_list, DL.i_lst_tuple, DL.i_tup_int, DL.i_tup_bool, DL.i_tup_str, DL.i_tup_list, DL.i_tup_tuple, DL.t_non, DL.t_bl, DL.t_int, DL.t_lst, DL.t_tup, ↓DL.x_lst, ↓DL.x_tup, ↓DL.x_encP0, ↓DL.x_encP1, DL.ixn1_0, DL.ixn1_m1, DL.ixn2_0, DL.ixn2_1, DL.ixn2_m1, DL.ixn3_0, DL.ixn3_1, DL.ixn3_2, DL.ixn3_m1, DL.ixn4_0, DL.ixn4_1, DL.ixn4_2, DL.ixn4_3, DL.ixn4_m1, DL.ixn5_0, DL.ixn5_1, DL.ixn5_2, DL.ixn5_3, DL.ixn5_4, DL.ixn5_m1, DL.ixn6_0, DL.ixn6_1, DL.ixn6_2, DL.ixn6_3, DL.ixn6_4, DL.ixn6_5, DL.ixn6_m1, DL.ixn7_0, DL.ixn7_1, DL.ixn7_2, DL.ixn7_3, DL.ixn7_4, DL.ixn7_5, DL.ixn7_6, DL.ixn7_m1, DL.ixn8_0, DL.ixn8_1, DL.ixn8_2, DL.ixn8_3, DL.ixn8_4, DL.ixn8_5, DL.ixn8_6, DL.ixn8_7, DL.ixn8_m1, ↓DL.x1_0, ↓DL.x1_m1, ↓DL.x2_0, ↓DL.x2_1, ↓DL.x2_m1, ↓DL.x3_0, ↓DL.x3_1, ↓DL.x3_2, ↓DL.x3_m1, ↓DL.x4_0, ↓DL.x4_1, ↓DL.x4_2, ↓DL.x4_3, ↓DL.x4_m1, ↓DL.x5_0, ↓DL.x5_1, ↓DL.x5_2, ↓DL.x5_3, ↓DL.x5_4, ↓DL.x5_m1, ↓DL.x6_0, ↓DL.x6_1, ↓DL.x6_2, ↓DL.x6_3, ↓DL.x6_4, ↓DL.x6_5, ↓DL.x6_m1, ↓DL.x7_0, ↓DL.x7_1, ↓DL.x7_2, ↓DL.x7_3, ↓DL.x7_4, ↓DL.x7_5, ↓DL.x7_6, ↓DL.x7_m1, ↓DL.x8_0, ↓DL.x8_1, ↓DL.x8_2, ↓DL.x8_3, ↓DL.x8_4, ↓DL.x8_5, ↓DL.x8_6, ↓DL.x8_7, ↓DL.x8_m1, DL.c_abs, DL.c_max2, DL.c_min2, DL.c_int, DL.c_intb, DL.c_lenS, DL.c_lenT, DL.c_lenL, DL.c_listT, DL.c_listL, DL.c_tupT, DL.c_tupL, DL.c_sum, DL.c_sum0, DL.c_all, DL.c_any, DL.c_minP, DL.c_maxP, DL.c_sortP, DL.c_zip, DL.c_enum, DL.c_range1, DL.c_range2, DL.g_lst, DL.g_tup, DL.g_str, DL.p_int, DL.sq_lst, DL.sl_lst, DL.sl_tup, DL.sl_str, DL.slL_lst, DL.om_some, List.set_cons_zero, List.set_cons_succ, DL.m_tyL, DL.m_tyS, DL.m_ty, DL.m_app, DL.m_sto, DL.m_fzL, DL.m_fzI, DL.m_fzT, DL.m_fz, DL.x_ref, DL.c_lenR, DL.c_listR, DL.c_tupR, DL.sl_ref, DL.atL_new, DL.atL_new1, DL.atL_new2, DL.atL_old, DL.set_new, DL.set_new1, DL.set_new2, DL.set_old, DL.take_app, DL.app_app, DL.cons_app, DL.nil_app, DL.len_app1, DL.len_app2, DL.len_app3, DL.len_set, DL.seq_new, DL.seq_new1, DL.seq_new2, DL.seq_old, DL.ex_some, DL.fl_non, DL.fl_int, DL.fl_bl, DL.fl_str, DL.fl_tup, DL.fl_lst, DL.fl_obj, DL.fl_nil, DL.fl_cons, DL.fl_app, DL.fl_encP, Bool.and_self, Bool.and_true, Bool.true_and, List.set_set, ↓DL.w_yes, ↓DL.w_fld, ↓DL.w_mt, ↓DL.w_mtL, ↓DL.w_mt0, ↓DL.w_mt0L, ↓DL.w_ic, DL.isO_obj, ↓DL.w_make, ↓DL.w_b2M, ↓DL.w_b2MT, ↓DL.w_uM, ↓DL.w_inv, ↓DL.w_bin_obj, ↓DL.w_bin_int, ↓DL.w_fldS, DL.m_fld, DL.atI_new, DL.putD, ↓DL.w_repL, ↓DL.w_isiC, ↓DL.w_par3, ↓DL.wPar3_3, DL.m_count, DL.wretL_new, DL.wret_new, ↓DL.c_setSort, List.take_length, List.length_cons, List.length_nil, List.length_map, Int.cast_ofNat_Int, Bool.not_true, Bool.not_false, Int.reduceAdd, Int.reduceSub, Int.reduceMul, Int.reduceNeg, Int.reduceEq, Int.reduceLT, Int.reduceLE, Nat.reduceAdd, Nat.reduceSub, eq_self, not_true_eq_false, not_false_eq_true, false_implies, implies_true, true_implies, $ts,*])
open Lean in
local macro_rules | `(tactic| push_cast) => `(tactic| simp only [↓DL.r0, ↓DL.r1, ↓DL.r2, ↓DL.r3, ↓DL.r4, ↓DL.r5, ↓DL.r6, ↓DL.r7, ↓DL.r8, ↓DL.r9, ↓DL.r10, ↓DL.r11, ↓DL.r12, ↓DL.r13, ↓DL.r14, ↓DL.r15, ↓DL.r16, ↓DL.r17, ↓DL.r18, ↓DL.r19, ↓DL.r20, ↓DL.r21, ↓DL.r22, ↓DL.r23, ↓DL.r24, ↓DL.r25, ↓DL.r26, ↓DL.r27, ↓DL.r28, ↓DL.r29, DL.s0, DL.s1, DL.s2, DL.s3, DL.s4, DL.s5, DL.s6, DL.s7, DL.s8, DL.s9, DL.s10, DL.s11, DL.s12, DL.s13, DL.s14, DL.s15, DL.s16, DL.s17, DL.s18, DL.s19, DL.s20, DL.s21, DL.s22, DL.s23, DL.s24, DL.s25, DL.s26, DL.s27, DL.s28, DL.s29, DL.startD_cons, DL.startD_nil, DL.startD_zero, ↓DL.w_ok, ↓DL.w_some, ↓DL.w_somec, ↓DL.w_bind, ↓DL.w_opt, ↓DL.w_chg, ↓DL.w_kon, ↓DL.w_calm, ↓DL.w_b2, ↓DL.w_b2L, ↓DL.w_b1, ↓DL.wB_bl, ↓DL.w_asB, ↓DL.w_b2T, ↓DL.w_chE, ↓DL.w_chT, ↓DL.w_not, ↓DL.w_val, ↓DL.w_notE, ↓DL.w_ifE, ↓DL.w_ifL, ↓DL.w_andM, ↓DL.w_orM, ↓DL.w_andE, ↓DL.w_orE, ↓DL.w_nil, ↓DL.w_cons, ↓DL.w_tup, ↓DL.w_lst, ↓DL.w_frz, ↓DL.w_new, ↓DL.w_cel, ↓DL.w_cb, ↓DL.w_cbL, ↓DL.w_call, ↓DL.w_callL, ↓DL.w_ar0, ↓DL.w_ar1, ↓DL.w_ar2, ↓DL.w_ar3, ↓DL.w_ar4, ↓DL.w_ar5, ↓DL.w_ar6, ↓DL.w_noO, ↓DL.w_smO, ↓DL.w_sl, ↓DL.w_slL, ↓DL.w_rev, ↓DL.w_step, ↓DL.w_isi, ↓DL.w_sets, ↓DL.w_lrg, ↓DL.w_mth, ↓DL.w_mth0, ↓DL.w_itS, ↓DL.w_itR1, ↓DL.w_itR2, ↓DL.w_itR3, ↓DL.w_itZ, ↓DL.w_itN, ↓DL.w_lc, ↓DL.w_nx, ↓DL.w_rt, ↓DL.w_seq, ↓DL.w_set, ↓DL.wPar_2, ↓DL.w_par, ↓DL.w_aug, ↓DL.w_sto, ↓DL.w_exp, ↓DL.w_ret, ↓DL.w_retN, ↓DL.w_nxS, ↓DL.w_ifS, ↓DL.w_for, ↓DL.w_asg, ↓DL.w_stk, ↓DL.w_body, ↓DL.w_bodyL, ↓DL.wret_non, ↓DL.wret_bl, ↓DL.wret_int, ↓DL.wret_str, ↓DL.wif_t, ↓DL.wif_f, ↓DL.wif_d, ↓DL.wif_n, ↓DL.wif_a, ↓DL.wif_o, DL.few0, DL.few1, DL.few2, DL.few3, DL.few4, DL.few5, DL.few6, DL.few7, DL.few8, DL.few9, DL.few10, true_and, and_true, ↓DL.a_nm, ↓DL.a_tp1, ↓DL.a_tp2, ↓DL.a_tp3, ↓DL.a_tp4, ↓DL.a_tp5, ↓DL.a_tpn, ↓DL.a_tpm, ↓DL.a_encP, DL.wipe_nil, DL.wipe_cons, DL.o_add, DL.o_sub, DL.o_neg, ↓DL.o_mul, ↓DL.o_div, ↓DL.o_mod, DL.o_pow, ↓DL.o_p10_3, ↓DL.o_p10_4, ↓DL.o_p10_6, ↓DL.o_p10_8, ↓DL.o_p10_9, ↓DL.o_p10_12, ↓DL.o_p10_15, ↓DL.o_p10_18, ↓DL.o_p10_20, ↓DL.o_p10_25, ↓DL.o_p10_26, ↓DL.o_p10_27, ↓DL.o_p10_28, ↓DL.o_p10_29, ↓DL.o_p10_30, ↓DL.o_p10_31, ↓DL.o_p10_36, ↓DL.o_p10_38, ↓DL.o_p10_40, ↓DL.o_p10_42, ↓DL.o_p10_44, ↓DL.o_p10_46, ↓DL.o_p10_48, ↓DL.o_p10_50, ↓DL.o_p10_60, ↓DL.o_p10_64, ↓DL.o_p10_70, ↓DL.o_p10_90, ↓DL.o_p10_99, ↓DL.o_p10_100, ↓DL.o_addS, ↓DL.o_addT, ↓DL.o_catL, ↓DL.o_addL, DL.o_lt, DL.o_le, DL.o_gt, DL.o_ge, DL.o_eqI, DL.o_neI, DL.o_eqS, DL.o_neS, DL.o_is, DL.o_isn, DL.n_non, DL.n_bl, DL.n_int, DL.n_str, DL.n_lst, DL.n_tup, DL.n_ref, DL.n_obj, DL.i_non_int, DL.i_non_bool, DL.i_non_str, DL.i_non_list, DL.i_non_tuple, DL.i_bl_int, DL.i_bl_bool, DL.i_bl_str, DL.i_bl_list, DL.i_bl_tuple, DL.i_int_int, DL.i_int_bool, DL.i_int_str, DL.i_int_list, DL.i_int_tuple, DL.i_str_int, DL.i_str_bool, DL.i_str_str, DL.i_str_list, DL.i_str_tuple, DL.i_lst_int, DL.i_lst_bool, DL.i_lst_str, DL.i_lst_list, DL.i_lst_tuple, DL.i_tup_int, DL.i_tup_bool, DL.i_tup_str, DL.i_tup_list, DL.i_tup_tuple, DL.t_non, DL.t_bl, DL.t_int, DL.t_lst, DL.t_tup, ↓DL.x_lst, ↓DL.x_tup, ↓DL.x_encP0, ↓DL.x_encP1, DL.ixn1_0, DL.ixn1_m1, DL.ixn2_0, DL.ixn2_1, DL.ixn2_m1, DL.ixn3_0, DL.ixn3_1, DL.ixn3_2, DL.ixn3_m1, DL.ixn4_0, DL.ixn4_1, DL.ixn4_2, DL.ixn4_3, DL.ixn4_m1, DL.ixn5_0, DL.ixn5_1, DL.ixn5_2, DL.ixn5_3, DL.ixn5_4, DL.ixn5_m1, DL.ixn6_0, DL.ixn6_1, DL.ixn6_2, DL.ixn6_3, DL.ixn6_4, DL.ixn6_5, DL.ixn6_m1, DL.ixn7_0, DL.ixn7_1, DL.ixn7_2, DL.ixn7_3, DL.ixn7_4, DL.ixn7_5, DL.ixn7_6, DL.ixn7_m1, DL.ixn8_0, DL.ixn8_1, DL.ixn8_2, DL.ixn8_3, DL.ixn8_4, DL.ixn8_5, DL.ixn8_6, DL.ixn8_7, DL.ixn8_m1, ↓DL.x1_0, ↓DL.x1_m1, ↓DL.x2_0, ↓DL.x2_1, ↓DL.x2_m1, ↓DL.x3_0, ↓DL.x3_1, ↓DL.x3_2, ↓DL.x3_m1, ↓DL.x4_0, ↓DL.x4_1, ↓DL.x4_2, ↓DL.x4_3, ↓DL.x4_m1, ↓DL.x5_0, ↓DL.x5_1, ↓DL.x5_2, ↓DL.x5_3, ↓DL.x5_4, ↓DL.x5_m1, ↓DL.x6_0, ↓DL.x6_1, ↓DL.x6_2, ↓DL.x6_3, ↓DL.x6_4, ↓DL.x6_5, ↓DL.x6_m1, ↓DL.x7_0, ↓DL.x7_1, ↓DL.x7_2, ↓DL.x7_3, ↓DL.x7_4, ↓DL.x7_5, ↓DL.x7_6, ↓DL.x7_m1, ↓DL.x8_0, ↓DL.x8_1, ↓DL.x8_2, ↓DL.x8_3, ↓DL.x8_4, ↓DL.x8_5, ↓DL.x8_6, ↓DL.x8_7, ↓DL.x8_m1, DL.c_abs, DL.c_max2, DL.c_min2, DL.c_int, DL.c_intb, DL.c_lenS, DL.c_lenT, DL.c_lenL, DL.c_listT, DL.c_listL, DL.c_tupT, DL.c_tupL, DL.c_sum, DL.c_sum0, DL.c_all, DL.c_any, DL.c_minP, DL.c_maxP, DL.c_sortP, DL.c_zip, DL.c_enum, DL.c_range1, DL.c_range2, DL.g_lst, DL.g_tup, DL.g_str, DL.p_int, DL.sq_lst, DL.sl_lst, DL.sl_tup, DL.sl_str, DL.slL_lst, DL.om_some, List.set_cons_zero, List.set_cons_succ, DL.m_tyL, DL.m_tyS, DL.m_ty, DL.m_app, DL.m_sto, DL.m_fzL, DL.m_fzI, DL.m_fzT, DL.m_fz, DL.x_ref, DL.c_lenR, DL.c_listR, DL.c_tupR, DL.sl_ref, DL.atL_new, DL.atL_new1, DL.atL_new2, DL.atL_old, DL.set_new, DL.set_new1, DL.set_new2, DL.set_old, DL.take_app, DL.app_app, DL.cons_app, DL.nil_app, DL.len_app1, DL.len_app2, DL.len_app3, DL.len_set, DL.seq_new, DL.seq_new1, DL.seq_new2, DL.seq_old, DL.ex_some, DL.fl_non, DL.fl_int, DL.fl_bl, DL.fl_str, DL.fl_tup, DL.fl_lst, DL.fl_obj, DL.fl_nil, DL.fl_cons, DL.fl_app, DL.fl_encP, Bool.and_self, Bool.and_true, Bool.true_and, List.set_set, ↓DL.w_yes, ↓DL.w_fld, ↓DL.w_mt, ↓DL.w_mtL, ↓DL.w_mt0, ↓DL.w_mt0L, ↓DL.w_ic, DL.isO_obj, ↓DL.w_make, ↓DL.w_b2M, ↓DL.w_b2MT, ↓DL.w_uM, ↓DL.w_inv, ↓DL.w_bin_obj, ↓DL.w_bin_int, ↓DL.w_fldS, DL.m_fld, DL.atI_new, DL.putD, ↓DL.w_repL, ↓DL.w_isiC, ↓DL.w_par3, ↓DL.wPar3_3, DL.m_count, DL.wretL_new, DL.wret_new, ↓DL.c_setSort, List.take_length, List.length_cons, List.length_nil, List.length_map, Int.cast_ofNat_Int, Bool.not_true, Bool.not_false, Int.reduceAdd, Int.reduceSub, Int.reduceMul, Int.reduceNeg, Int.reduceEq, Int.reduceLT, Int.reduceLE, Nat.reduceAdd, Nat.reduceSub, eq_self, not_true_eq_false, not_false_eq_true, false_implies, implies_true, true_implies])
/-! profiles: the class -/
def prof (c : Int) (J : List MP.T) : D := .obj 0 [.int c, .tup (J.map encT)]
section
variable {S : Cells}
theorem fl_prof {c : Int} {J : List MP.T} : (prof c J).flat = true := by rw [prof, fl_obj, fl_cons, fl_cons, fl_int, fl_tup, fl_ts]; rfl
theorem asc_zip : ∀ {lo : Int} {l : List MP.T}, MP.Asc lo l → ∀ q ∈ l.zip (l.drop 1), q.1.2.1 < q.2.1
  | _, [], _, q, h => by simp at h
  | _, [r], _, q, h => by simp at h
  | _, r :: s :: l, h, q, hq => by
    have hq : q ∈ (r, s) :: (s :: l).zip ((s :: l).drop 1) := hq
    rcases List.mem_cons.mp hq with e | hq
    · subst e
      have := h.2.2.2.1
      show r.2.1 < s.1
      omega
    · exact asc_zip h.2.2.2 q hq
theorem are_pieces_ok {l : List MP.T} (h : MP.Asc 1 l) : g_are_pieces [.lst (l.map encT)] S = .ok (.bl true) S := by
  refine wp_ok ?_
  push_cast [g_are_pieces, B_are_pieces]
  refine comp_map_wp encT (fun _ => .bl true) l (fun p hp => ?_) ?_
  · have := h.mem p hp
    unfold cStep
    push_cast [is_piece_ok (p := p) (by omega)]
  push_cast
  refine ⟨fun q => ?_, fun q => ?_⟩
  · push_cast [cut_1]
    rw [← List.map_drop, pairsD_map]
    refine comp_map_wp (fun q : MP.T × MP.T => D.tup [encT q.1, encT q.2]) (fun q => .bl (decide (q.1.2.1 < q.2.1))) _ (fun q hq => ?_) ?_
    · unfold cStep
      push_cast
      push_cast [encT]
    push_cast
    rw [List.all_eq_true.mpr fun q hq => decide_eq_true (asc_zip h q hq)]
  · rw [List.all_eq_true.mpr fun _ _ => rfl] at q
    cases q
theorem in_range_n {i lo : Int} (h : lo ≤ i) : g_in_range [.int i, .int lo, .non] S = .ok (.bl true) S := in_range_lo h
theorem make_ok {c : Int} {l : List MP.T} (hc : 0 ≤ c) (h : MP.Asc 1 l) (hz : l.length ≤ 10000) : makeD NMf 0 3 g_Profile___init__ [.int c, .lst (l.map encT)] S = .ok (prof c (MP.fin l)) S := by
  refine wp_ok (make_wp rfl ?_)
  push_cast [g_Profile___init__, B_Profile___init__, in_range_lo hc, are_pieces_ok h, joined_ok hz]
  have ne : ¬ (Str.ofString "own_cold" = Str.ofString "own_pieces") := by decide +kernel
  rw [if_neg ne, List.take_of_length_le (by simp)]
  refine ⟨⟨by decide, by decide⟩, ⟨by decide, fl_ts, by decide⟩, true, [("own_cold", .int c), ("own_pieces", .tup ((MP.fin l).map encT))], by simp, rfl, rfl, take_app rfl⟩
/-- numbers of fewer than sixty digits -/
def Sm (i : Int) : Prop := -(10 ^ 60) < i ∧ i < 10 ^ 60
theorem sm_mul {i j : Int} (hi : Sm i) (hj : Sm j) : okMul i j = true := okMul_of 200 200 (by have := hi.1; have := hi.2; omega) (by have := hj.1; have := hj.2; omega) (by decide)
/-- pieces of small numbers -/
def SmT (p : MP.T) : Prop := 1 ≤ p.1 ∧ p.1 ≤ p.2.1 ∧ p.2.1 < 10 ^ 60 ∧ 0 ≤ p.2.2 ∧ p.2.2 < 10 ^ 60
theorem mx_if {a b : Int} : (if b > a then b else a) = MP.mx a b := rfl
theorem wif_and {a b : Bool} {A B : Prop} : wif (a && b) A B = ((a = true ∧ b = true → A) ∧ (¬ (a = true ∧ b = true) → B)) := by cases a <;> cases b <;> simp [wif, U.wif]
theorem cnt_filter_sum (J : List MP.T) (d : Int) : ((J.filter fun p => MP.inT p d).map fun p => p.2.2).sum = MP.cnt J d := by
  induction J with
  | nil => rfl
  | cons p J ih =>
    rw [MP.cnt_cons, List.filter_cons]
    by_cases h : MP.inT p d = true
    · rw [if_pos h, if_pos h, List.map_cons, List.sum_cons, ih]
    · rw [if_neg h, if_neg h, ih]
      omega
end

end K15
end
section
set_option maxHeartbeats 4000000
set_option exponentiation.threshold 3000
namespace K15
open PySem PySem.Spec L2 DL
open PyProof.Rows hiding St
open Lean in
local macro_rules | `(tactic| push_cast [$ts,*]) => `(tactic| simp only [↓DL.r0, ↓DL.r1, ↓DL.r2, ↓DL.r3, ↓DL.r4, ↓DL.r5, ↓DL.r6, ↓DL.r7, ↓DL.r8, ↓DL.r9, ↓DL.r10, ↓DL.r11, ↓DL.r12, ↓DL.r13, ↓DL.r14, ↓DL.r15, ↓DL.r16, ↓DL.r17, ↓DL.r18, ↓DL.r19, ↓DL.r20, ↓DL.r21, ↓DL.r22, ↓DL.r23, ↓DL.r24, ↓DL.r25, ↓DL.r26, ↓DL.r27, ↓DL.r28, ↓DL.r29, DL.s0, DL.s1, DL.s2, DL.s3, DL.s4, DL.s5, DL.s6, DL.s7, DL.s8, DL.s9, DL.s10, DL.s11, DL.s12, DL.s13, DL.s14, DL.s15, DL.s16, DL.s17, DL.s18, DL.s19, DL.s20, DL.s21, DL.s22, DL.s23, DL.s24, DL.s25, DL.s26, DL.s27, DL.s28, DL.s29, DL.startD_cons, DL.startD_nil, DL.startD_zero, ↓DL.w_ok, ↓DL.w_some, ↓DL.w_somec, ↓DL.w_bind, ↓DL.w_opt, ↓DL.w_chg, ↓DL.w_kon, ↓DL.w_calm, ↓DL.w_b2, ↓DL.w_b2L, ↓DL.w_b1, ↓DL.wB_bl, ↓DL.w_asB, ↓DL.w_b2T, ↓DL.w_chE, ↓DL.w_chT, ↓DL.w_not, ↓DL.w_val, ↓DL.w_notE, ↓DL.w_ifE, ↓DL.w_ifL, ↓DL.w_andM, ↓DL.w_orM, ↓DL.w_andE, ↓DL.w_orE, ↓DL.w_nil, ↓DL.w_cons, ↓DL.w_tup, ↓DL.w_lst, ↓DL.w_frz, ↓DL.w_new, ↓DL.w_cel, ↓DL.w_cb, ↓DL.w_cbL, ↓DL.w_call, ↓DL.w_callL, ↓DL.w_ar0, ↓DL.w_ar1, ↓DL.w_ar2, ↓DL.w_ar3, ↓DL.w_ar4, ↓DL.w_ar5, ↓DL.w_ar6, ↓DL.w_noO, ↓DL.w_smO, ↓DL.w_sl, ↓DL.w_slL, ↓DL.w_rev, ↓DL.w_step, ↓DL.w_isi, ↓DL.w_sets, ↓DL.w_lrg, ↓DL.w_mth, ↓DL.w_mth0, ↓DL.w_itS, ↓DL.w_itR1, ↓DL.w_itR2, ↓DL.w_itR3, ↓DL.w_itZ, ↓DL.w_itN, ↓DL.w_lc, ↓DL.w_nx, ↓DL.w_rt, ↓DL.w_seq, ↓DL.w_set, ↓DL.wPar_2, ↓DL.w_par, ↓DL.w_aug, ↓DL.w_sto, ↓DL.w_exp, ↓DL.w_ret, ↓DL.w_retN, ↓DL.w_nxS, ↓DL.w_ifS, ↓DL.w_for, ↓DL.w_asg, ↓DL.w_stk, ↓DL.w_body, ↓DL.w_bodyL, ↓DL.wret_non, ↓DL.wret_bl, ↓DL.wret_int, ↓DL.wret_str, ↓DL.wif_t, ↓DL.wif_f, ↓DL.wif_d, ↓DL.wif_n, ↓DL.wif_a, ↓DL.wif_o, DL.few0, DL.few1, DL.few2, DL.few3, DL.few4, DL.few5, DL.few6, DL.few7, DL.few8, DL.few9, DL.few10, true_and, and_true, ↓DL.a_nm, ↓DL.a_tp1, ↓DL.a_tp2, ↓DL.a_tp3, ↓DL.a_tp4, ↓DL.a_tp5, ↓DL.a_tpn, ↓DL.a_tpm, ↓DL.a_encP, DL.wipe_nil, DL.wipe_cons, DL.o_add, DL.o_sub, DL.o_neg, ↓DL.o_mul, ↓DL.o_div, ↓DL.o_mod, DL.o_pow, ↓DL.o_p10_3, ↓DL.o_p10_4, ↓DL.o_p10_6, ↓DL.o_p10_8, ↓DL.o_p10_9, ↓DL.o_p10_12, ↓DL.o_p10_15, ↓DL.o_p10_18, ↓DL.o_p10_20, ↓DL.o_p10_25, ↓DL.o_p10_26, ↓DL.o_p10_27, ↓DL.o_p10_28, ↓DL.o_p10_29, ↓DL.o_p10_30, ↓DL.o_p10_31, ↓DL.o_p10_36, ↓DL.o_p10_38, ↓DL.o_p10_40, ↓DL.o_p10_42, ↓DL.o_p10_44, ↓DL.o_p10_46, ↓DL.o_p10_48, ↓DL.o_p10_50, ↓DL.o_p10_60, ↓DL.o_p10_64, ↓DL.o_p10_70, ↓DL.o_p10_90, ↓DL.o_p10_99, ↓DL.o_p10_100, ↓DL.o_addS, ↓DL.o_addT, ↓DL.o_catL, ↓DL.o_addL, DL.o_lt, DL.o_le, DL.o_gt, DL.o_ge, DL.o_eqI, DL.o_neI, DL.o_eqS, DL.o_neS, DL.o_is, DL.o_isn, DL.n_non, DL.n_bl, DL.n_int, DL.n_str, DL.n_lst, DL.n_tup, DL.n_ref, DL.n_obj, DL.i_non_int, DL.i_non_bool, DL.i_non_str, DL.i_non_list, DL.i_non_tuple, DL.i_bl_int, DL.i_bl_bool, DL.i_bl_str, DL.i_bl_list, DL.i_bl_tuple, DL.i_int_int, DL.i_int_bool, DL.i_int_str, DL.i_int_list, DL.i_int_tuple, DL.i_str_int, DL.i_str_bool, DL.i_str_str, DL.i_str_list, DL.i_str_tuple, DL.i_lst_int, DL.i_lst_bool, DL.i_lst_str, DL.i_lst_list, DL.i_lst_tuple, DL.i_tup_int, DL.i_tup_bool, DL.i_tup_str, DL.i_tup_list, DL.i_tup_tuple, DL.t_non, DL.t_bl, DL.t_int, DL.t_lst, DL.t_tup, ↓DL.x_lst, ↓DL.x_tup, ↓DL.x_encP0, ↓DL.x_encP1, DL.ixn1_0, DL.ixn1_m1, DL.ixn2_0, DL.ixn2_1, DL.ixn2_m1, DL.ixn3_0, DL.ixn3_1, DL.ixn3_2, DL.ixn3_m1, DL.ixn4_0, DL.ixn4_1, DL.ixn4_2, DL.ixn4_3, DL.ixn4_m1, DL.ixn5_0, DL.ixn5_1, DL.ixn5_2, DL.ixn5_3, DL.ixn5_4, DL.ixn5_m1, DL.ixn6_0, DL.ixn6_1, DL.ixn6_2, DL.ixn6_3, DL.ixn6_4, DL.ixn6_5, DL.ixn6_m1, DL.ixn7_0, DL.ixn7_1, DL.ixn7_2, DL.ixn7_3, DL.ixn7_4, DL.ixn7_5, DL.ixn7_6, DL.ixn7_m1, DL.ixn8_0, DL.ixn8_1, DL.ixn8_2, DL.ixn8_3, DL.ixn8_4, DL.ixn8_5, DL.ixn8_6, DL.ixn8_7, DL.ixn8_m1, ↓DL.x1_0, ↓DL.x1_m1, ↓DL.x2_0, ↓DL.x2_1, ↓DL.x2_m1, ↓DL.x3_0, ↓DL.x3_1, ↓DL.x3_2, ↓DL.x3_m1, ↓DL.x4_0, ↓DL.x4_1, ↓DL.x4_2, ↓DL.x4_3, ↓DL.x4_m1, ↓DL.x5_0, ↓DL.x5_1, ↓DL.x5_2, ↓DL.x5_3, ↓DL.x5_4, ↓DL.x5_m1, ↓DL.x6_0, ↓DL.x6_1, ↓DL.x6_2, ↓DL.x6_3, ↓DL.x6_4, ↓DL.x6_5, ↓DL.x6_m1, ↓DL.x7_0, ↓DL.x7_1, ↓DL.x7_2, ↓DL.x7_3, ↓DL.x7_4, ↓DL.x7_5, ↓DL.x7_6, ↓DL.x7_m1, ↓DL.x8_0, ↓DL.x8_1, ↓DL.x8_2, ↓DL.x8_3, ↓DL.x8_4, ↓DL.x8_5, ↓DL.x8_6, ↓DL.x8_7, ↓DL.x8_m1, DL.c_abs, DL.c_max2, DL.c_min2, DL.c_int, DL.c_intb, DL.c_lenS, DL.c_lenT, DL.c_lenL, DL.c_listT, DL.c_listL, DL.c_tupT, DL.c_tupL, DL.c_sum, DL.c_sum0, DL.c_all, DL.c_any, DL.c_minP, DL.c_maxP, DL.c_sortP, DL.c_zip, DL.c_enum, DL.c_range1, DL.c_range2, DL.g_lst, DL.g_tup, DL.g_str, DL.p_int, DL.sq_lst, DL.sl_lst, DL.sl_tup, DL.sl_str, DL.slL_lst, DL.om_some, List.set_cons_zero, List.set_cons_succ, DL.m_tyL, DL.m_tyS, DL.m_ty, DL.m_app, DL.m_sto, DL.m_fzL, DL.m_fzI, DL.m_fzT, DL.m_fz, DL.x_ref, DL.c_lenR, DL.c_listR, DL.c_tupR, DL.sl_ref, DL.atL_new, DL.atL_new1, DL.atL_new2, DL.atL_old, DL.set_new, DL.set_new1, DL.set_new2, DL.set_old, DL.take_app, DL.app_app, DL.cons_app, DL.nil_app, DL.len_app1, DL.len_app2, DL.len_app3, DL.len_set, DL.seq_new, DL.seq_new1, DL.seq_new2, DL.seq_old, DL.ex_some, DL.fl_non, DL.fl_int, DL.fl_bl, DL.fl_str, DL.fl_tup, DL.fl_lst, DL.fl_obj, DL.fl_nil, DL.fl_cons, DL.fl_app, DL.fl_encP, Bool.and_self, Bool.and_true, Bool.true_and, List.set_set, ↓DL.w_yes, ↓DL.w_fld, ↓DL.w_mt, ↓DL.w_mtL, ↓DL.w_mt0, ↓DL.w_mt0L, ↓DL.w_ic, DL.isO_obj, ↓DL.w_make, ↓DL.w_b2M, ↓DL.w_b2MT, ↓DL.w_uM, ↓DL.w_inv, ↓DL.w_bin_obj, ↓DL.w_bin_int, ↓DL.w_fldS, DL.m_fld, DL.atI_new, DL.putD, ↓DL.w_repL, ↓DL.w_isiC, ↓DL.w_par3, ↓DL.wPar3_3, DL.m_count, DL.wretL_new, DL.wret_new, ↓DL.c_setSort, List.take_length, List.length_cons, List.length_nil, List.length_map, Int.cast_ofNat_Int, Bool.not_true, Bool.not_false, Int.reduceAdd, Int.reduceSub, Int.reduceMul, Int.reduceNeg, Int.reduceEq, Int.reduceLT, Int.reduceLE, Nat.reduceAdd, Nat.reduceSub, eq_self, not_true_eq_false, not_false_eq_true, false_implies, implies_true, true_implies, $ts,*])
open Lean in
local macro_rules | `(tactic| push_cast) => `(tactic| simp only [↓DL.r0, ↓DL.r1, ↓DL.r2, ↓DL.r3, ↓DL.r4, ↓DL.r5, ↓DL.r6, ↓DL.r7, ↓DL.r8, ↓DL.r9, ↓DL.r10, ↓DL.r11, ↓DL.r12, ↓DL.r13, ↓DL.r14, ↓DL.r15, ↓DL.r16, ↓DL.r17, ↓DL.r18, ↓DL.r19, ↓DL.r20, ↓DL.r21, ↓DL.r22, ↓DL.r23, ↓DL.r24, ↓DL.r25, ↓DL.r26, ↓DL.r27, ↓DL.r28, ↓DL.r29, DL.s0, DL.s1, DL.s2, DL.s3, DL.s4, DL.s5, DL.s6, DL.s7, DL.s8, DL.s9, DL.s10, DL.s11, DL.s12, DL.s13, DL.s14, DL.s15, DL.s16, DL.s17, DL.s18, DL.s19, DL.s20, DL.s21, DL.s22, DL.s23, DL.s24, DL.s25, DL.s26, DL.s27, DL.s28, DL.s29, DL.startD_cons, DL.startD_nil, DL.startD_zero, ↓DL.w_ok, ↓DL.w_some, ↓DL.w_somec, ↓DL.w_bind, ↓DL.w_opt, ↓DL.w_chg, ↓DL.w_kon, ↓DL.w_calm, ↓DL.w_b2, ↓DL.w_b2L, ↓DL.w_b1, ↓DL.wB_bl, ↓DL.w_asB, ↓DL.w_b2T, ↓DL.w_chE, ↓DL.w_chT, ↓DL.w_not, ↓DL.w_val, ↓DL.w_notE, ↓DL.w_ifE, ↓DL.w_ifL, ↓DL.w_andM, ↓DL.w_orM, ↓DL.w_andE, ↓DL.w_orE, ↓DL.w_nil, ↓DL.w_cons, ↓DL.w_tup, ↓DL.w_lst, ↓DL.w_frz, ↓DL.w_new, ↓DL.w_cel, ↓DL.w_cb, ↓DL.w_cbL, ↓DL.w_call, ↓DL.w_callL, ↓DL.w_ar0, ↓DL.w_ar1, ↓DL.w_ar2, ↓DL.w_ar3, ↓DL.w_ar4, ↓DL.w_ar5, ↓DL.w_ar6, ↓DL.w_noO, ↓DL.w_smO, ↓DL.w_sl, ↓DL.w_slL, ↓DL.w_rev, ↓DL.w_step, ↓DL.w_isi, ↓DL.w_sets, ↓DL.w_lrg, ↓DL.w_mth, ↓DL.w_mth0, ↓DL.w_itS, ↓DL.w_itR1, ↓DL.w_itR2, ↓DL.w_itR3, ↓DL.w_itZ, ↓DL.w_itN, ↓DL.w_lc, ↓DL.w_nx, ↓DL.w_rt, ↓DL.w_seq, ↓DL.w_set, ↓DL.wPar_2, ↓DL.w_par, ↓DL.w_aug, ↓DL.w_sto, ↓DL.w_exp, ↓DL.w_ret, ↓DL.w_retN, ↓DL.w_nxS, ↓DL.w_ifS, ↓DL.w_for, ↓DL.w_asg, ↓DL.w_stk, ↓DL.w_body, ↓DL.w_bodyL, ↓DL.wret_non, ↓DL.wret_bl, ↓DL.wret_int, ↓DL.wret_str, ↓DL.wif_t, ↓DL.wif_f, ↓DL.wif_d, ↓DL.wif_n, ↓DL.wif_a, ↓DL.wif_o, DL.few0, DL.few1, DL.few2, DL.few3, DL.few4, DL.few5, DL.few6, DL.few7, DL.few8, DL.few9, DL.few10, true_and, and_true, ↓DL.a_nm, ↓DL.a_tp1, ↓DL.a_tp2, ↓DL.a_tp3, ↓DL.a_tp4, ↓DL.a_tp5, ↓DL.a_tpn, ↓DL.a_tpm, ↓DL.a_encP, DL.wipe_nil, DL.wipe_cons, DL.o_add, DL.o_sub, DL.o_neg, ↓DL.o_mul, ↓DL.o_div, ↓DL.o_mod, DL.o_pow, ↓DL.o_p10_3, ↓DL.o_p10_4, ↓DL.o_p10_6, ↓DL.o_p10_8, ↓DL.o_p10_9, ↓DL.o_p10_12, ↓DL.o_p10_15, ↓DL.o_p10_18, ↓DL.o_p10_20, ↓DL.o_p10_25, ↓DL.o_p10_26, ↓DL.o_p10_27, ↓DL.o_p10_28, ↓DL.o_p10_29, ↓DL.o_p10_30, ↓DL.o_p10_31, ↓DL.o_p10_36, ↓DL.o_p10_38, ↓DL.o_p10_40, ↓DL.o_p10_42, ↓DL.o_p10_44, ↓DL.o_p10_46, ↓DL.o_p10_48, ↓DL.o_p10_50, ↓DL.o_p10_60, ↓DL.o_p10_64, ↓DL.o_p10_70, ↓DL.o_p10_90, ↓DL.o_p10_99, ↓DL.o_p10_100, ↓DL.o_addS, ↓DL.o_addT, ↓DL.o_catL, ↓DL.o_addL, DL.o_lt, DL.o_le, DL.o_gt, DL.o_ge, DL.o_eqI, DL.o_neI, DL.o_eqS, DL.o_neS, DL.o_is, DL.o_isn, DL.n_non, DL.n_bl, DL.n_int, DL.n_str, DL.n_lst, DL.n_tup, DL.n_ref, DL.n_obj, DL.i_non_int, DL.i_non_bool, DL.i_non_str, DL.i_non_list, DL.i_non_tuple, DL.i_bl_int, DL.i_bl_bool, DL.i_bl_str, DL.i_bl_list, DL.i_bl_tuple, DL.i_int_int, DL.i_int_bool, DL.i_int_str, DL.i_int_list, DL.i_int_tuple, DL.i_str_int, DL.i_str_bool, DL.i_str_str, DL.i_str_list, DL.i_str_tuple, DL.i_lst_int, DL.i_lst_bool, DL.i_lst_str, DL.i_lst_list, DL.i_lst_tuple, DL.i_tup_int, DL.i_tup_bool, DL.i_tup_str, DL.i_tup_list, DL.i_tup_tuple, DL.t_non, DL.t_bl, DL.t_int, DL.t_lst, DL.t_tup, ↓DL.x_lst, ↓DL.x_tup, ↓DL.x_encP0, ↓DL.x_encP1, DL.ixn1_0, DL.ixn1_m1, DL.ixn2_0, DL.ixn2_1, DL.ixn2_m1, DL.ixn3_0, DL.ixn3_1, DL.ixn3_2, DL.ixn3_m1, DL.ixn4_0, DL.ixn4_1, DL.ixn4_2, DL.ixn4_3, DL.ixn4_m1, DL.ixn5_0, DL.ixn5_1, DL.ixn5_2, DL.ixn5_3, DL.ixn5_4, DL.ixn5_m1, DL.ixn6_0, DL.ixn6_1, DL.ixn6_2, DL.ixn6_3, DL.ixn6_4, DL.ixn6_5, DL.ixn6_m1, DL.ixn7_0, DL.ixn7_1, DL.ixn7_2, DL.ixn7_3, DL.ixn7_4, DL.ixn7_5, DL.ixn7_6, DL.ixn7_m1, DL.ixn8_0, DL.ixn8_1, DL.ixn8_2, DL.ixn8_3, DL.ixn8_4, DL.ixn8_5, DL.ixn8_6, DL.ixn8_7, DL.ixn8_m1, ↓DL.x1_0, ↓DL.x1_m1, ↓DL.x2_0, ↓DL.x2_1, ↓DL.x2_m1, ↓DL.x3_0, ↓DL.x3_1, ↓DL.x3_2, ↓DL.x3_m1, ↓DL.x4_0, ↓DL.x4_1, ↓DL.x4_2, ↓DL.x4_3, ↓DL.x4_m1, ↓DL.x5_0, ↓DL.x5_1, ↓DL.x5_2, ↓DL.x5_3, ↓DL.x5_4, ↓DL.x5_m1, ↓DL.x6_0, ↓DL.x6_1, ↓DL.x6_2, ↓DL.x6_3, ↓DL.x6_4, ↓DL.x6_5, ↓DL.x6_m1, ↓DL.x7_0, ↓DL.x7_1, ↓DL.x7_2, ↓DL.x7_3, ↓DL.x7_4, ↓DL.x7_5, ↓DL.x7_6, ↓DL.x7_m1, ↓DL.x8_0, ↓DL.x8_1, ↓DL.x8_2, ↓DL.x8_3, ↓DL.x8_4, ↓DL.x8_5, ↓DL.x8_6, ↓DL.x8_7, ↓DL.x8_m1, DL.c_abs, DL.c_max2, DL.c_min2, DL.c_int, DL.c_intb, DL.c_lenS, DL.c_lenT, DL.c_lenL, DL.c_listT, DL.c_listL, DL.c_tupT, DL.c_tupL, DL.c_sum, DL.c_sum0, DL.c_all, DL.c_any, DL.c_minP, DL.c_maxP, DL.c_sortP, DL.c_zip, DL.c_enum, DL.c_range1, DL.c_range2, DL.g_lst, DL.g_tup, DL.g_str, DL.p_int, DL.sq_lst, DL.sl_lst, DL.sl_tup, DL.sl_str, DL.slL_lst, DL.om_some, List.set_cons_zero, List.set_cons_succ, DL.m_tyL, DL.m_tyS, DL.m_ty, DL.m_app, DL.m_sto, DL.m_fzL, DL.m_fzI, DL.m_fzT, DL.m_fz, DL.x_ref, DL.c_lenR, DL.c_listR, DL.c_tupR, DL.sl_ref, DL.atL_new, DL.atL_new1, DL.atL_new2, DL.atL_old, DL.set_new, DL.set_new1, DL.set_new2, DL.set_old, DL.take_app, DL.app_app, DL.cons_app, DL.nil_app, DL.len_app1, DL.len_app2, DL.len_app3, DL.len_set, DL.seq_new, DL.seq_new1, DL.seq_new2, DL.seq_old, DL.ex_some, DL.fl_non, DL.fl_int, DL.fl_bl, DL.fl_str, DL.fl_tup, DL.fl_lst, DL.fl_obj, DL.fl_nil, DL.fl_cons, DL.fl_app, DL.fl_encP, Bool.and_self, Bool.and_true, Bool.true_and, List.set_set, ↓DL.w_yes, ↓DL.w_fld, ↓DL.w_mt, ↓DL.w_mtL, ↓DL.w_mt0, ↓DL.w_mt0L, ↓DL.w_ic, DL.isO_obj, ↓DL.w_make, ↓DL.w_b2M, ↓DL.w_b2MT, ↓DL.w_uM, ↓DL.w_inv, ↓DL.w_bin_obj, ↓DL.w_bin_int, ↓DL.w_fldS, DL.m_fld, DL.atI_new, DL.putD, ↓DL.w_repL, ↓DL.w_isiC, ↓DL.w_par3, ↓DL.wPar3_3, DL.m_count, DL.wretL_new, DL.wret_new, ↓DL.c_setSort, List.take_length, List.length_cons, List.length_nil, List.length_map, Int.cast_ofNat_Int, Bool.not_true, Bool.not_false, Int.reduceAdd, Int.reduceSub, Int.reduceMul, Int.reduceNeg, Int.reduceEq, Int.reduceLT, Int.reduceLE, Nat.reduceAdd, Nat.reduceSub, eq_self, not_true_eq_false, not_false_eq_true, false_implies, implies_true, true_implies])
/-! the draws -/
def pondL (a b c : Int) : List D := [.int a, .int b, .int c]
def Pond (S : Cells) (n k : Nat) : Prop := ∃ a b c : Int, S[n]? = some ⟨true, .lst (pondL a b c)⟩ ∧ 0 ≤ b ∧ b < 10 ^ 50 ∧ 0 ≤ c ∧ c ≤ k
theorem Pond.lt {S : Cells} {n k : Nat} (h : Pond S n k) : n < S.length := by
  obtain ⟨a, b, c, h, _⟩ := h
  exact (List.getElem?_eq_some_iff.mp h).1
theorem Pond.mono {S : Cells} {n k j : Nat} (h : Pond S n k) (hk : k ≤ j) : Pond S n j := by
  obtain ⟨a, b, c, h, h1, h2, h3, h4⟩ := h
  exact ⟨a, b, c, h, h1, h2, h3, by omega⟩
/-- but for the pond all is as before -/
structure Fr (S S' : Cells) (n : Nat) : Prop where
  len : S'.length = S.length
  oth : ∀ j, j ≠ n → S'[j]? = S[j]?
theorem Fr.refl (S : Cells) (n : Nat) : Fr S S n := ⟨rfl, fun _ _ => rfl⟩
theorem Fr.trans {S S1 S2 : Cells} {n : Nat} (a : Fr S S1 n) (b : Fr S1 S2 n) : Fr S S2 n := ⟨b.len.trans a.len, fun j h => (b.oth j h).trans (a.oth j h)⟩
theorem Fr.set {S : Cells} {n : Nat} {c : Cell} : Fr S (S.set n c) n := ⟨List.length_set, fun j h => List.getElem?_set_ne (Ne.symm h)⟩
section
variable {S R : Cells} {E : Xc → Cells → Prop} {Q : D → Cells → Prop}
theorem lt_pow {i : Int} {b : Nat} {m : Int} (h0 : 0 ≤ i) (h : i < m) (hm : m ≤ 2 ^ b) : i.natAbs < 2 ^ b := by
  have e : ((2 ^ b : Nat) : Int) = (2 : Int) ^ b := by simp
  omega
theorem pow_ok {i : Int} (h : 0 ≤ i) (h2 : i < 10 ^ 60) : okPow i 3 := by
  refine ⟨by decide, ?_⟩
  unfold Builtin.Int.intBits
  have := PySem.Flt.log2_lt_of (by decide) (lt_pow (b := 200) h h2 (by decide))
  split <;> omega
theorem div_ok {m : Int} (hm : 0 < m) (hm2 : m < 10 ^ 60) : okDiv m := ⟨hm, by have := PySem.Flt.log2_lt_of (by decide) (lt_pow (b := 200) (by omega) hm2 (by decide)); omega⟩
theorem sm_of {i : Int} (h : 0 ≤ i) (h2 : i < 10 ^ 60) : Sm i := ⟨by omega, h2⟩
theorem dip_wp {n k : Nat} {m : Int} (h : Pond S n k) (hk : k ≤ 10 ^ 12) (hm : 0 < m) (hm2 : m < 10 ^ 60) (q : ∀ v S', 0 ≤ v → v < m → Pond S' n (k + 1) → Fr S S' n → Q (.int v) (S' ++ R)) : wp (g__law_dip [.ref n, .int m] (S ++ R)) Q E := by
  have hn := h.lt
  obtain ⟨a, b, c, h, h1, h2, h3, h4⟩ := h
  have hs : ∀ {c : Cell}, (S.set n c)[n]? = some c := fun {c} => by rw [List.getElem?_set_self hn]
  have tk : ∀ {c : Cell}, ((S.set n c) ++ R).take (S ++ R).length = (S.set n c) ++ R := fun {c} => List.take_of_length_le (by simp)
  unfold pondL at h
  push_cast [g__law_dip, B__law_dip, seq_at h, seq_at hs, atL_of h, atL_of hs, hn, tk, hm, div_ok hm hm2, div_ok (m := 655373) (by decide) (by decide)]
  refine ⟨fun ha => ?_, fun ha => ?_⟩
  · exact q _ _ (Int.emod_nonneg _ (by omega)) (Int.emod_lt_of_pos _ hm) ⟨a / m, b, c, hs, h1, h2, h3, by omega⟩ Fr.set
  have hc : c + 1 ≤ 10 ^ 12 + 1 := by omega
  have b1 := Int.emod_nonneg ((b + 86028157 * (c + 1)) ^ Int.toNat 3) (b := 1000000000000000000000000000000000000000063) (by decide)
  have b2 := Int.emod_lt_of_pos ((b + 86028157 * (c + 1)) ^ Int.toNat 3) (b := 1000000000000000000000000000000000000000063) (by decide)
  refine ⟨sm_mul (sm_of (by decide) (by decide)) (sm_of (by omega) (by omega)), pow_ok (by omega) (by omega), sm_mul (sm_of (by decide) (by decide)) (sm_of (by omega) (by omega)), pow_ok (by omega) (by omega), ?_⟩
  exact q _ _ (Int.emod_nonneg _ (by omega)) (Int.emod_lt_of_pos _ hm) ⟨a, b, c + 1, hs, h1, h2, by omega, by omega⟩ Fr.set
theorem dip_wp0 {n k : Nat} {m : Int} (h : Pond S n k) (hk : k ≤ 10 ^ 12) (hm : 0 < m) (hm2 : m < 10 ^ 60) (q : ∀ v S', 0 ≤ v → v < m → Pond S' n (k + 1) → Fr S S' n → Q (.int v) S') : wp (g__law_dip [.ref n, .int m] S) Q E := by
  have := dip_wp (R := []) (E := E) (Q := Q) h hk hm hm2 fun v S' a b c d => by rw [List.append_nil]; exact q v S' a b c d
  rwa [List.append_nil] at this
end

end K15
end
section
set_option maxHeartbeats 4000000
set_option exponentiation.threshold 3000
namespace K15
open PySem PySem.Spec L2 DL
open PyProof.Rows hiding St
open Lean in
local macro_rules | `(tactic| push_cast [$ts,*]) => `(tactic| simp only [↓DL.r0, ↓DL.r1, ↓DL.r2, ↓DL.r3, ↓DL.r4, ↓DL.r5, ↓DL.r6, ↓DL.r7, ↓DL.r8, ↓DL.r9, ↓DL.r10, ↓DL.r11, ↓DL.r12, ↓DL.r13, ↓DL.r14, ↓DL.r15, ↓DL.r16, ↓DL.r17, ↓DL.r18, ↓DL.r19, ↓DL.r20, ↓DL.r21, ↓DL.r22, ↓DL.r23, ↓DL.r24, ↓DL.r25, ↓DL.r26, ↓DL.r27, ↓DL.r28, ↓DL.r29, DL.s0, DL.s1, DL.s2, DL.s3, DL.s4, DL.s5, DL.s6, DL.s7, DL.s8, DL.s9, DL.s10, DL.s11, DL.s12, DL.s13, DL.s14, DL.s15, DL.s16, DL.s17, DL.s18, DL.s19, DL.s20, DL.s21, DL.s22, DL.s23, DL.s24, DL.s25, DL.s26, DL.s27, DL.s28, DL.s29, DL.startD_cons, DL.startD_nil, DL.startD_zero, ↓DL.w_ok, ↓DL.w_some, ↓DL.w_somec, ↓DL.w_bind, ↓DL.w_opt, ↓DL.w_chg, ↓DL.w_kon, ↓DL.w_calm, ↓DL.w_b2, ↓DL.w_b2L, ↓DL.w_b1, ↓DL.wB_bl, ↓DL.w_asB, ↓DL.w_b2T, ↓DL.w_chE, ↓DL.w_chT, ↓DL.w_not, ↓DL.w_val, ↓DL.w_notE, ↓DL.w_ifE, ↓DL.w_ifL, ↓DL.w_andM, ↓DL.w_orM, ↓DL.w_andE, ↓DL.w_orE, ↓DL.w_nil, ↓DL.w_cons, ↓DL.w_tup, ↓DL.w_lst, ↓DL.w_frz, ↓DL.w_new, ↓DL.w_cel, ↓DL.w_cb, ↓DL.w_cbL, ↓DL.w_call, ↓DL.w_callL, ↓DL.w_ar0, ↓DL.w_ar1, ↓DL.w_ar2, ↓DL.w_ar3, ↓DL.w_ar4, ↓DL.w_ar5, ↓DL.w_ar6, ↓DL.w_noO, ↓DL.w_smO, ↓DL.w_sl, ↓DL.w_slL, ↓DL.w_rev, ↓DL.w_step, ↓DL.w_isi, ↓DL.w_sets, ↓DL.w_lrg, ↓DL.w_mth, ↓DL.w_mth0, ↓DL.w_itS, ↓DL.w_itR1, ↓DL.w_itR2, ↓DL.w_itR3, ↓DL.w_itZ, ↓DL.w_itN, ↓DL.w_lc, ↓DL.w_nx, ↓DL.w_rt, ↓DL.w_seq, ↓DL.w_set, ↓DL.wPar_2, ↓DL.w_par, ↓DL.w_aug, ↓DL.w_sto, ↓DL.w_exp, ↓DL.w_ret, ↓DL.w_retN, ↓DL.w_nxS, ↓DL.w_ifS, ↓DL.w_for, ↓DL.w_asg, ↓DL.w_stk, ↓DL.w_body, ↓DL.w_bodyL, ↓DL.wret_non, ↓DL.wret_bl, ↓DL.wret_int, ↓DL.wret_str, ↓DL.wif_t, ↓DL.wif_f, ↓DL.wif_d, ↓DL.wif_n, ↓DL.wif_a, ↓DL.wif_o, DL.few0, DL.few1, DL.few2, DL.few3, DL.few4, DL.few5, DL.few6, DL.few7, DL.few8, DL.few9, DL.few10, true_and, and_true, ↓DL.a_nm, ↓DL.a_tp1, ↓DL.a_tp2, ↓DL.a_tp3, ↓DL.a_tp4, ↓DL.a_tp5, ↓DL.a_tpn, ↓DL.a_tpm, ↓DL.a_encP, DL.wipe_nil, DL.wipe_cons, DL.o_add, DL.o_sub, DL.o_neg, ↓DL.o_mul, ↓DL.o_div, ↓DL.o_mod, DL.o_pow, ↓DL.o_p10_3, ↓DL.o_p10_4, ↓DL.o_p10_6, ↓DL.o_p10_8, ↓DL.o_p10_9, ↓DL.o_p10_12, ↓DL.o_p10_15, ↓DL.o_p10_18, ↓DL.o_p10_20, ↓DL.o_p10_25, ↓DL.o_p10_26, ↓DL.o_p10_27, ↓DL.o_p10_28, ↓DL.o_p10_29, ↓DL.o_p10_30, ↓DL.o_p10_31, ↓DL.o_p10_36, ↓DL.o_p10_38, ↓DL.o_p10_40, ↓DL.o_p10_42, ↓DL.o_p10_44, ↓DL.o_p10_46, ↓DL.o_p10_48, ↓DL.o_p10_50, ↓DL.o_p10_60, ↓DL.o_p10_64, ↓DL.o_p10_70, ↓DL.o_p10_90, ↓DL.o_p10_99, ↓DL.o_p10_100, ↓DL.o_addS, ↓DL.o_addT, ↓DL.o_catL, ↓DL.o_addL, DL.o_lt, DL.o_le, DL.o_gt, DL.o_ge, DL.o_eqI, DL.o_neI, DL.o_eqS, DL.o_neS, DL.o_is, DL.o_isn, DL.n_non, DL.n_bl, DL.n_int, DL.n_str, DL.n_lst, DL.n_tup, DL.n_ref, DL.n_obj, DL.i_non_int, DL.i_non_bool, DL.i_non_str, DL.i_non_list, DL.i_non_tuple, DL.i_bl_int, DL.i_bl_bool, DL.i_bl_str, DL.i_bl_list, DL.i_bl_tuple, DL.i_int_int, DL.i_int_bool, DL.i_int_str, DL.i_int_list, DL.i_int_tuple, DL.i_str_int, DL.i_str_bool, DL.i_str_str, DL.i_str_list, DL.i_str_tuple, DL.i_lst_int, DL.i_lst_bool, DL.i_lst_str, DL.i_lst_list, DL.i_lst_tuple, DL.i_tup_int, DL.i_tup_bool, DL.i_tup_str, DL.i_tup_list, DL.i_tup_tuple, DL.t_non, DL.t_bl, DL.t_int, DL.t_lst, DL.t_tup, ↓DL.x_lst, ↓DL.x_tup, ↓DL.x_encP0, ↓DL.x_encP1, DL.ixn1_0, DL.ixn1_m1, DL.ixn2_0, DL.ixn2_1, DL.ixn2_m1, DL.ixn3_0, DL.ixn3_1, DL.ixn3_2, DL.ixn3_m1, DL.ixn4_0, DL.ixn4_1, DL.ixn4_2, DL.ixn4_3, DL.ixn4_m1, DL.ixn5_0, DL.ixn5_1, DL.ixn5_2, DL.ixn5_3, DL.ixn5_4, DL.ixn5_m1, DL.ixn6_0, DL.ixn6_1, DL.ixn6_2, DL.ixn6_3, DL.ixn6_4, DL.ixn6_5, DL.ixn6_m1, DL.ixn7_0, DL.ixn7_1, DL.ixn7_2, DL.ixn7_3, DL.ixn7_4, DL.ixn7_5, DL.ixn7_6, DL.ixn7_m1, DL.ixn8_0, DL.ixn8_1, DL.ixn8_2, DL.ixn8_3, DL.ixn8_4, DL.ixn8_5, DL.ixn8_6, DL.ixn8_7, DL.ixn8_m1, ↓DL.x1_0, ↓DL.x1_m1, ↓DL.x2_0, ↓DL.x2_1, ↓DL.x2_m1, ↓DL.x3_0, ↓DL.x3_1, ↓DL.x3_2, ↓DL.x3_m1, ↓DL.x4_0, ↓DL.x4_1, ↓DL.x4_2, ↓DL.x4_3, ↓DL.x4_m1, ↓DL.x5_0, ↓DL.x5_1, ↓DL.x5_2, ↓DL.x5_3, ↓DL.x5_4, ↓DL.x5_m1, ↓DL.x6_0, ↓DL.x6_1, ↓DL.x6_2, ↓DL.x6_3, ↓DL.x6_4, ↓DL.x6_5, ↓DL.x6_m1, ↓DL.x7_0, ↓DL.x7_1, ↓DL.x7_2, ↓DL.x7_3, ↓DL.x7_4, ↓DL.x7_5, ↓DL.x7_6, ↓DL.x7_m1, ↓DL.x8_0, ↓DL.x8_1, ↓DL.x8_2, ↓DL.x8_3, ↓DL.x8_4, ↓DL.x8_5, ↓DL.x8_6, ↓DL.x8_7, ↓DL.x8_m1, DL.c_abs, DL.c_max2, DL.c_min2, DL.c_int, DL.c_intb, DL.c_lenS, DL.c_lenT, DL.c_lenL, DL.c_listT, DL.c_listL, DL.c_tupT, DL.c_tupL, DL.c_sum, DL.c_sum0, DL.c_all, DL.c_any, DL.c_minP, DL.c_maxP, DL.c_sortP, DL.c_zip, DL.c_enum, DL.c_range1, DL.c_range2, DL.g_lst, DL.g_tup, DL.g_str, DL.p_int, DL.sq_lst, DL.sl_lst, DL.sl_tup, DL.sl_str, DL.slL_lst, DL.om_some, List.set_cons_zero, List.set_cons_succ, DL.m_tyL, DL.m_tyS, DL.m_ty, DL.m_app, DL.m_sto, DL.m_fzL, DL.m_fzI, DL.m_fzT, DL.m_fz, DL.x_ref, DL.c_lenR, DL.c_listR, DL.c_tupR, DL.sl_ref, DL.atL_new, DL.atL_new1, DL.atL_new2, DL.atL_old, DL.set_new, DL.set_new1, DL.set_new2, DL.set_old, DL.take_app, DL.app_app, DL.cons_app, DL.nil_app, DL.len_app1, DL.len_app2, DL.len_app3, DL.len_set, DL.seq_new, DL.seq_new1, DL.seq_new2, DL.seq_old, DL.ex_some, DL.fl_non, DL.fl_int, DL.fl_bl, DL.fl_str, DL.fl_tup, DL.fl_lst, DL.fl_obj, DL.fl_nil, DL.fl_cons, DL.fl_app, DL.fl_encP, Bool.and_self, Bool.and_true, Bool.true_and, List.set_set, ↓DL.w_yes, ↓DL.w_fld, ↓DL.w_mt, ↓DL.w_mtL, ↓DL.w_mt0, ↓DL.w_mt0L, ↓DL.w_ic, DL.isO_obj, ↓DL.w_make, ↓DL.w_b2M, ↓DL.w_b2MT, ↓DL.w_uM, ↓DL.w_inv, ↓DL.w_bin_obj, ↓DL.w_bin_int, ↓DL.w_fldS, DL.m_fld, DL.atI_new, DL.putD, ↓DL.w_repL, ↓DL.w_isiC, ↓DL.w_par3, ↓DL.wPar3_3, DL.m_count, DL.wretL_new, DL.wret_new, ↓DL.c_setSort, List.take_length, List.length_cons, List.length_nil, List.length_map, Int.cast_ofNat_Int, Bool.not_true, Bool.not_false, Int.reduceAdd, Int.reduceSub, Int.reduceMul, Int.reduceNeg, Int.reduceEq, Int.reduceLT, Int.reduceLE, Nat.reduceAdd, Nat.reduceSub, eq_self, not_true_eq_false, not_false_eq_true, false_implies, implies_true, true_implies, $ts,*])
open Lean in
local macro_rules | `(tactic| push_cast) => `(tactic| simp only [↓DL.r0, ↓DL.r1, ↓DL.r2, ↓DL.r3, ↓DL.r4, ↓DL.r5, ↓DL.r6, ↓DL.r7, ↓DL.r8, ↓DL.r9, ↓DL.r10, ↓DL.r11, ↓DL.r12, ↓DL.r13, ↓DL.r14, ↓DL.r15, ↓DL.r16, ↓DL.r17, ↓DL.r18, ↓DL.r19, ↓DL.r20, ↓DL.r21, ↓DL.r22, ↓DL.r23, ↓DL.r24, ↓DL.r25, ↓DL.r26, ↓DL.r27, ↓DL.r28, ↓DL.r29, DL.s0, DL.s1, DL.s2, DL.s3, DL.s4, DL.s5, DL.s6, DL.s7, DL.s8, DL.s9, DL.s10, DL.s11, DL.s12, DL.s13, DL.s14, DL.s15, DL.s16, DL.s17, DL.s18, DL.s19, DL.s20, DL.s21, DL.s22, DL.s23, DL.s24, DL.s25, DL.s26, DL.s27, DL.s28, DL.s29, DL.startD_cons, DL.startD_nil, DL.startD_zero, ↓DL.w_ok, ↓DL.w_some, ↓DL.w_somec, ↓DL.w_bind, ↓DL.w_opt, ↓DL.w_chg, ↓DL.w_kon, ↓DL.w_calm, ↓DL.w_b2, ↓DL.w_b2L, ↓DL.w_b1, ↓DL.wB_bl, ↓DL.w_asB, ↓DL.w_b2T, ↓DL.w_chE, ↓DL.w_chT, ↓DL.w_not, ↓DL.w_val, ↓DL.w_notE, ↓DL.w_ifE, ↓DL.w_ifL, ↓DL.w_andM, ↓DL.w_orM, ↓DL.w_andE, ↓DL.w_orE, ↓DL.w_nil, ↓DL.w_cons, ↓DL.w_tup, ↓DL.w_lst, ↓DL.w_frz, ↓DL.w_new, ↓DL.w_cel, ↓DL.w_cb, ↓DL.w_cbL, ↓DL.w_call, ↓DL.w_callL, ↓DL.w_ar0, ↓DL.w_ar1, ↓DL.w_ar2, ↓DL.w_ar3, ↓DL.w_ar4, ↓DL.w_ar5, ↓DL.w_ar6, ↓DL.w_noO, ↓DL.w_smO, ↓DL.w_sl, ↓DL.w_slL, ↓DL.w_rev, ↓DL.w_step, ↓DL.w_isi, ↓DL.w_sets, ↓DL.w_lrg, ↓DL.w_mth, ↓DL.w_mth0, ↓DL.w_itS, ↓DL.w_itR1, ↓DL.w_itR2, ↓DL.w_itR3, ↓DL.w_itZ, ↓DL.w_itN, ↓DL.w_lc, ↓DL.w_nx, ↓DL.w_rt, ↓DL.w_seq, ↓DL.w_set, ↓DL.wPar_2, ↓DL.w_par, ↓DL.w_aug, ↓DL.w_sto, ↓DL.w_exp, ↓DL.w_ret, ↓DL.w_retN, ↓DL.w_nxS, ↓DL.w_ifS, ↓DL.w_for, ↓DL.w_asg, ↓DL.w_stk, ↓DL.w_body, ↓DL.w_bodyL, ↓DL.wret_non, ↓DL.wret_bl, ↓DL.wret_int, ↓DL.wret_str, ↓DL.wif_t, ↓DL.wif_f, ↓DL.wif_d, ↓DL.wif_n, ↓DL.wif_a, ↓DL.wif_o, DL.few0, DL.few1, DL.few2, DL.few3, DL.few4, DL.few5, DL.few6, DL.few7, DL.few8, DL.few9, DL.few10, true_and, and_true, ↓DL.a_nm, ↓DL.a_tp1, ↓DL.a_tp2, ↓DL.a_tp3, ↓DL.a_tp4, ↓DL.a_tp5, ↓DL.a_tpn, ↓DL.a_tpm, ↓DL.a_encP, DL.wipe_nil, DL.wipe_cons, DL.o_add, DL.o_sub, DL.o_neg, ↓DL.o_mul, ↓DL.o_div, ↓DL.o_mod, DL.o_pow, ↓DL.o_p10_3, ↓DL.o_p10_4, ↓DL.o_p10_6, ↓DL.o_p10_8, ↓DL.o_p10_9, ↓DL.o_p10_12, ↓DL.o_p10_15, ↓DL.o_p10_18, ↓DL.o_p10_20, ↓DL.o_p10_25, ↓DL.o_p10_26, ↓DL.o_p10_27, ↓DL.o_p10_28, ↓DL.o_p10_29, ↓DL.o_p10_30, ↓DL.o_p10_31, ↓DL.o_p10_36, ↓DL.o_p10_38, ↓DL.o_p10_40, ↓DL.o_p10_42, ↓DL.o_p10_44, ↓DL.o_p10_46, ↓DL.o_p10_48, ↓DL.o_p10_50, ↓DL.o_p10_60, ↓DL.o_p10_64, ↓DL.o_p10_70, ↓DL.o_p10_90, ↓DL.o_p10_99, ↓DL.o_p10_100, ↓DL.o_addS, ↓DL.o_addT, ↓DL.o_catL, ↓DL.o_addL, DL.o_lt, DL.o_le, DL.o_gt, DL.o_ge, DL.o_eqI, DL.o_neI, DL.o_eqS, DL.o_neS, DL.o_is, DL.o_isn, DL.n_non, DL.n_bl, DL.n_int, DL.n_str, DL.n_lst, DL.n_tup, DL.n_ref, DL.n_obj, DL.i_non_int, DL.i_non_bool, DL.i_non_str, DL.i_non_list, DL.i_non_tuple, DL.i_bl_int, DL.i_bl_bool, DL.i_bl_str, DL.i_bl_list, DL.i_bl_tuple, DL.i_int_int, DL.i_int_bool, DL.i_int_str, DL.i_int_list, DL.i_int_tuple, DL.i_str_int, DL.i_str_bool, DL.i_str_str, DL.i_str_list, DL.i_str_tuple, DL.i_lst_int, DL.i_lst_bool, DL.i_lst_str, DL.i_lst_list, DL.i_lst_tuple, DL.i_tup_int, DL.i_tup_bool, DL.i_tup_str, DL.i_tup_list, DL.i_tup_tuple, DL.t_non, DL.t_bl, DL.t_int, DL.t_lst, DL.t_tup, ↓DL.x_lst, ↓DL.x_tup, ↓DL.x_encP0, ↓DL.x_encP1, DL.ixn1_0, DL.ixn1_m1, DL.ixn2_0, DL.ixn2_1, DL.ixn2_m1, DL.ixn3_0, DL.ixn3_1, DL.ixn3_2, DL.ixn3_m1, DL.ixn4_0, DL.ixn4_1, DL.ixn4_2, DL.ixn4_3, DL.ixn4_m1, DL.ixn5_0, DL.ixn5_1, DL.ixn5_2, DL.ixn5_3, DL.ixn5_4, DL.ixn5_m1, DL.ixn6_0, DL.ixn6_1, DL.ixn6_2, DL.ixn6_3, DL.ixn6_4, DL.ixn6_5, DL.ixn6_m1, DL.ixn7_0, DL.ixn7_1, DL.ixn7_2, DL.ixn7_3, DL.ixn7_4, DL.ixn7_5, DL.ixn7_6, DL.ixn7_m1, DL.ixn8_0, DL.ixn8_1, DL.ixn8_2, DL.ixn8_3, DL.ixn8_4, DL.ixn8_5, DL.ixn8_6, DL.ixn8_7, DL.ixn8_m1, ↓DL.x1_0, ↓DL.x1_m1, ↓DL.x2_0, ↓DL.x2_1, ↓DL.x2_m1, ↓DL.x3_0, ↓DL.x3_1, ↓DL.x3_2, ↓DL.x3_m1, ↓DL.x4_0, ↓DL.x4_1, ↓DL.x4_2, ↓DL.x4_3, ↓DL.x4_m1, ↓DL.x5_0, ↓DL.x5_1, ↓DL.x5_2, ↓DL.x5_3, ↓DL.x5_4, ↓DL.x5_m1, ↓DL.x6_0, ↓DL.x6_1, ↓DL.x6_2, ↓DL.x6_3, ↓DL.x6_4, ↓DL.x6_5, ↓DL.x6_m1, ↓DL.x7_0, ↓DL.x7_1, ↓DL.x7_2, ↓DL.x7_3, ↓DL.x7_4, ↓DL.x7_5, ↓DL.x7_6, ↓DL.x7_m1, ↓DL.x8_0, ↓DL.x8_1, ↓DL.x8_2, ↓DL.x8_3, ↓DL.x8_4, ↓DL.x8_5, ↓DL.x8_6, ↓DL.x8_7, ↓DL.x8_m1, DL.c_abs, DL.c_max2, DL.c_min2, DL.c_int, DL.c_intb, DL.c_lenS, DL.c_lenT, DL.c_lenL, DL.c_listT, DL.c_listL, DL.c_tupT, DL.c_tupL, DL.c_sum, DL.c_sum0, DL.c_all, DL.c_any, DL.c_minP, DL.c_maxP, DL.c_sortP, DL.c_zip, DL.c_enum, DL.c_range1, DL.c_range2, DL.g_lst, DL.g_tup, DL.g_str, DL.p_int, DL.sq_lst, DL.sl_lst, DL.sl_tup, DL.sl_str, DL.slL_lst, DL.om_some, List.set_cons_zero, List.set_cons_succ, DL.m_tyL, DL.m_tyS, DL.m_ty, DL.m_app, DL.m_sto, DL.m_fzL, DL.m_fzI, DL.m_fzT, DL.m_fz, DL.x_ref, DL.c_lenR, DL.c_listR, DL.c_tupR, DL.sl_ref, DL.atL_new, DL.atL_new1, DL.atL_new2, DL.atL_old, DL.set_new, DL.set_new1, DL.set_new2, DL.set_old, DL.take_app, DL.app_app, DL.cons_app, DL.nil_app, DL.len_app1, DL.len_app2, DL.len_app3, DL.len_set, DL.seq_new, DL.seq_new1, DL.seq_new2, DL.seq_old, DL.ex_some, DL.fl_non, DL.fl_int, DL.fl_bl, DL.fl_str, DL.fl_tup, DL.fl_lst, DL.fl_obj, DL.fl_nil, DL.fl_cons, DL.fl_app, DL.fl_encP, Bool.and_self, Bool.and_true, Bool.true_and, List.set_set, ↓DL.w_yes, ↓DL.w_fld, ↓DL.w_mt, ↓DL.w_mtL, ↓DL.w_mt0, ↓DL.w_mt0L, ↓DL.w_ic, DL.isO_obj, ↓DL.w_make, ↓DL.w_b2M, ↓DL.w_b2MT, ↓DL.w_uM, ↓DL.w_inv, ↓DL.w_bin_obj, ↓DL.w_bin_int, ↓DL.w_fldS, DL.m_fld, DL.atI_new, DL.putD, ↓DL.w_repL, ↓DL.w_isiC, ↓DL.w_par3, ↓DL.wPar3_3, DL.m_count, DL.wretL_new, DL.wret_new, ↓DL.c_setSort, List.take_length, List.length_cons, List.length_nil, List.length_map, Int.cast_ofNat_Int, Bool.not_true, Bool.not_false, Int.reduceAdd, Int.reduceSub, Int.reduceMul, Int.reduceNeg, Int.reduceEq, Int.reduceLT, Int.reduceLE, Nat.reduceAdd, Nat.reduceSub, eq_self, not_true_eq_false, not_false_eq_true, false_implies, implies_true, true_implies])
section
variable {S R : Cells} {E : Xc → Cells → Prop} {Q : D → Cells → Prop} {QL : List D → Cells → Prop}
theorem at_int3 {a b c k : Int} (h0 : 0 ≤ k) (h1 : k < 3) (q : ∀ x, (x = a ∨ x = b ∨ x = c) → Q (.int x) S) : wAt [.int a, .int b, .int c] k S Q :=
  at_3 h0 h1 (fun _ => q _ (.inl rfl)) (fun _ => q _ (.inr (.inl rfl))) (fun _ => q _ (.inr (.inr rfl)))
theorem at_int2 {a b k : Int} (h0 : 0 ≤ k) (h1 : k < 2) (q : ∀ x, (x = a ∨ x = b) → Q (.int x) S) : wAt [.int a, .int b] k S Q :=
  at_2 h0 h1 (fun _ => q _ (.inl rfl)) (fun _ => q _ (.inr rfl))
theorem asc_snoc : ∀ {lo : Int} {l : List MP.T} {p : MP.T}, MP.Asc lo l → (∀ q ∈ l, q.2.1 < p.1) → lo ≤ p.1 → p.1 ≤ p.2.1 → 0 < p.2.2 → MP.Asc lo (l ++ [p])
  | _, [], _, _, _, h1, h2, h3 => ⟨h1, h2, h3, trivial⟩
  | _, r :: l, p, h, hq, h1, h2, h3 => ⟨h.1, h.2.1, h.2.2.1, asc_snoc h.2.2.2 (fun q hq' => hq q (List.mem_cons_of_mem _ hq')) (by have := hq r List.mem_cons_self; omega) h2 h3⟩
theorem given_wp {n k : Nat} {w : Int} (h : Pond S n k) (hk : k ≤ 10 ^ 11) (hw : 1 ≤ w) (hw2 : w ≤ 10 ^ 31)
    (q : ∀ F S', MP.Asc 1 F → F.length ≤ 6 → (∀ p ∈ F, p.2.1 ≤ 12 * w + 12 ∧ p.2.2 ≤ w + 2) → Pond S' n (k + 50) → Fr S S' n → QL (F.map encT) S') : wp (g__law_given [.ref n, .int w] S) QL E := by
  have zz := z24
  push_cast [g__law_given, B__law_given]
  refine dip_wp h (by omega) (by decide) (by decide) fun v S1 v0 v1 hp hf => ?_
  push_cast [w_rangeI v0 (by omega)]
  refine for_st (σ := Cells × List MP.T × Int × Option D × Option D) (fun i : Nat => D.int i)
    (fun s => [some (.ref n), some (.int w), some (.ref S.length), some (.int s.2.2.1), s.2.2.2.1, s.2.2.2.2]) (fun s => s.1 ++ [⟨true, .lst (s.2.1.map encT)⟩])
    (fun s r => Pond s.1 n (k + 1 + 7 * s.2.1.length) ∧ Fr S s.1 n ∧ MP.Asc 1 s.2.1 ∧ (∀ p ∈ s.2.1, p.2.1 ≤ s.2.2.1 ∧ p.2.2 ≤ w + 2) ∧ 0 ≤ s.2.2.1 ∧ s.2.2.1 ≤ s.2.1.length * (2 * w + 2) ∧ s.2.1.length + r.length ≤ 6)
    (List.range v.toNat) (S1, [], 0, none, none) ⟨hp, hf, trivial, by simp, Int.le_refl _, by simp, by simp; omega⟩ ?_ ?_
  · rintro ⟨S2, F, last, x4, x5⟩ i r ⟨hp, hf, ha, hb, hl0, hl1, hz⟩
    simp only [List.length_cons] at hp hf ha hb hl0 hl1 hz
    push_cast [L1__law_given]
    refine dip_wp hp (by omega) (by omega) (by omega) fun a1 S3 p0 p1 hp hf3 => ?_
    have hf := hf.trans hf3
    push_cast [hf.len]
    refine dip_wp hp (by omega) (by omega) (by omega) fun a2 S4 r0 r1 hp hf4 => ?_
    have hf := hf.trans hf4
    push_cast [hf.len]
    refine at_int3 r0 r1 fun low hlow => ?_
    push_cast [hf.len]
    refine dip_wp hp (by omega) (by omega) (by omega) fun a3 S5 _ _ hp hf5 => ?_
    have hf := hf.trans hf5
    push_cast [hf.len]
    refine dip_wp hp (by omega) (by omega) (by omega) fun a4 S6 _ _ hp hf6 => ?_
    have hf := hf.trans hf6
    push_cast [hf.len]
    refine dip_wp hp (by omega) (by omega) (by omega) fun a5 S7 r0 r1 hp hf7 => ?_
    have hf := hf.trans hf7
    push_cast [hf.len]
    refine at_int3 r0 r1 fun hi hhi => ?_
    push_cast [hf.len]
    refine dip_wp hp (by omega) (by omega) (by omega) fun a6 S8 _ _ hp hf8 => ?_
    have hf := hf.trans hf8
    push_cast [hf.len]
    refine dip_wp hp (by omega) (by omega) (by omega) fun a7 S9 r0 r1 hp hf9 => ?_
    have hf := hf.trans hf9
    push_cast [hf.len]
    refine at_int3 r0 r1 fun t ht => ?_
    push_cast [hf.len]
    have hz1 : F.length < sizeLine := by omega
    refine ⟨hz1, ⟨S9, F ++ [(last + 1 + low, last + 1 + low + hi, t)], _, _, _⟩, rfl, ?_, ?_⟩
    · rw [List.map_append]; rfl
    have lw : 0 ≤ low ∧ low < w := by omega
    have hw3 : 0 ≤ hi ∧ hi ≤ w + 1 := by omega
    have ht1 : 1 ≤ t ∧ t ≤ w + 2 := by omega
    have el : ((F.length + 1 : Nat) : Int) * (2 * w + 2) = F.length * (2 * w + 2) + (2 * w + 2) := by rw [Int.natCast_add, Int.add_mul]; omega
    refine ⟨hp.mono (by simp; omega), hf, asc_snoc ha (fun q hq => by have := hb q hq; show _ < last + 1 + low; omega) (by show 1 ≤ last + 1 + low; omega) (by show last + 1 + low ≤ last + 1 + low + hi; omega) (by show 0 < t; omega), ?_, ?_, ?_, ?_⟩
    · intro p hpm
      rcases List.mem_append.mp hpm with hpm | hpm
      · have := hb p hpm
        show _ ≤ last + 1 + low + hi ∧ _
        omega
      · rw [List.mem_singleton] at hpm
        subst hpm
        exact ⟨Int.le_refl _, ht1.2⟩
    · show 0 ≤ last + 1 + low + hi
      omega
    · rw [List.length_append, List.length_singleton]
      show last + 1 + low + hi ≤ _
      omega
    · rw [List.length_append, List.length_singleton]
      omega
  · rintro ⟨S2, F, last, x4, x5⟩ ⟨hp, hf, ha, hb, hl0, hl1, hz⟩
    simp only [List.length_nil] at hp hf ha hb hl0 hl1 hz
    push_cast [hf.len]
    have el : (F.length : Int) * (2 * w + 2) ≤ 6 * (2 * w + 2) := Int.mul_le_mul_of_nonneg_right (by omega) (by omega)
    refine q F S2 ha (by omega) (fun p hp => ?_) (hp.mono (by omega)) hf
    have := hb p hp
    omega
end

end K15
end
section
set_option maxHeartbeats 4000000
set_option exponentiation.threshold 3000
namespace K15
open PySem PySem.Spec L2 DL
open PyProof.Rows hiding St
open Lean in
local macro_rules | `(tactic| push_cast [$ts,*]) => `(tactic| simp only [↓DL.r0, ↓DL.r1, ↓DL.r2, ↓DL.r3, ↓DL.r4, ↓DL.r5, ↓DL.r6, ↓DL.r7, ↓DL.r8, ↓DL.r9, ↓DL.r10, ↓DL.r11, ↓DL.r12, ↓DL.r13, ↓DL.r14, ↓DL.r15, ↓DL.r16, ↓DL.r17, ↓DL.r18, ↓DL.r19, ↓DL.r20, ↓DL.r21, ↓DL.r22, ↓DL.r23, ↓DL.r24, ↓DL.r25, ↓DL.r26, ↓DL.r27, ↓DL.r28, ↓DL.r29, DL.s0, DL.s1, DL.s2, DL.s3, DL.s4, DL.s5, DL.s6, DL.s7, DL.s8, DL.s9, DL.s10, DL.s11, DL.s12, DL.s13, DL.s14, DL.s15, DL.s16, DL.s17, DL.s18, DL.s19, DL.s20, DL.s21, DL.s22, DL.s23, DL.s24, DL.s25, DL.s26, DL.s27, DL.s28, DL.s29, DL.startD_cons, DL.startD_nil, DL.startD_zero, ↓DL.w_ok, ↓DL.w_some, ↓DL.w_somec, ↓DL.w_bind, ↓DL.w_opt, ↓DL.w_chg, ↓DL.w_kon, ↓DL.w_calm, ↓DL.w_b2, ↓DL.w_b2L, ↓DL.w_b1, ↓DL.wB_bl, ↓DL.w_asB, ↓DL.w_b2T, ↓DL.w_chE, ↓DL.w_chT, ↓DL.w_not, ↓DL.w_val, ↓DL.w_notE, ↓DL.w_ifE, ↓DL.w_ifL, ↓DL.w_andM, ↓DL.w_orM, ↓DL.w_andE, ↓DL.w_orE, ↓DL.w_nil, ↓DL.w_cons, ↓DL.w_tup, ↓DL.w_lst, ↓DL.w_frz, ↓DL.w_new, ↓DL.w_cel, ↓DL.w_cb, ↓DL.w_cbL, ↓DL.w_call, ↓DL.w_callL, ↓DL.w_ar0, ↓DL.w_ar1, ↓DL.w_ar2, ↓DL.w_ar3, ↓DL.w_ar4, ↓DL.w_ar5, ↓DL.w_ar6, ↓DL.w_noO, ↓DL.w_smO, ↓DL.w_sl, ↓DL.w_slL, ↓DL.w_rev, ↓DL.w_step, ↓DL.w_isi, ↓DL.w_sets, ↓DL.w_lrg, ↓DL.w_mth, ↓DL.w_mth0, ↓DL.w_itS, ↓DL.w_itR1, ↓DL.w_itR2, ↓DL.w_itR3, ↓DL.w_itZ, ↓DL.w_itN, ↓DL.w_lc, ↓DL.w_nx, ↓DL.w_rt, ↓DL.w_seq, ↓DL.w_set, ↓DL.wPar_2, ↓DL.w_par, ↓DL.w_aug, ↓DL.w_sto, ↓DL.w_exp, ↓DL.w_ret, ↓DL.w_retN, ↓DL.w_nxS, ↓DL.w_ifS, ↓DL.w_for, ↓DL.w_asg, ↓DL.w_stk, ↓DL.w_body, ↓DL.w_bodyL, ↓DL.wret_non, ↓DL.wret_bl, ↓DL.wret_int, ↓DL.wret_str, ↓DL.wif_t, ↓DL.wif_f, ↓DL.wif_d, ↓DL.wif_n, ↓DL.wif_a, ↓DL.wif_o, DL.few0, DL.few1, DL.few2, DL.few3, DL.few4, DL.few5, DL.few6, DL.few7, DL.few8, DL.few9, DL.few10, true_and, and_true, ↓DL.a_nm, ↓DL.a_tp1, ↓DL.a_tp2, ↓DL.a_tp3, ↓DL.a_tp4, ↓DL.a_tp5, ↓DL.a_tpn, ↓DL.a_tpm, ↓DL.a_encP, DL.wipe_nil, DL.wipe_cons, DL.o_add, DL.o_sub, DL.o_neg, ↓DL.o_mul, ↓DL.o_div, ↓DL.o_mod, DL.o_pow, ↓DL.o_p10_3, ↓DL.o_p10_4, ↓DL.o_p10_6, ↓DL.o_p10_8, ↓DL.o_p10_9, ↓DL.o_p10_12, ↓DL.o_p10_15, ↓DL.o_p10_18, ↓DL.o_p10_20, ↓DL.o_p10_25, ↓DL.o_p10_26, ↓DL.o_p10_27, ↓DL.o_p10_28, ↓DL.o_p10_29, ↓DL.o_p10_30, ↓DL.o_p10_31, ↓DL.o_p10_36, ↓DL.o_p10_38, ↓DL.o_p10_40, ↓DL.o_p10_42, ↓DL.o_p10_44, ↓DL.o_p10_46, ↓DL.o_p10_48, ↓DL.o_p10_50, ↓DL.o_p10_60, ↓DL.o_p10_64, ↓DL.o_p10_70, ↓DL.o_p10_90, ↓DL.o_p10_99, ↓DL.o_p10_100, ↓DL.o_addS, ↓DL.o_addT, ↓DL.o_catL, ↓DL.o_addL, DL.o_lt, DL.o_le, DL.o_gt, DL.o_ge, DL.o_eqI, DL.o_neI, DL.o_eqS, DL.o_neS, DL.o_is, DL.o_isn, DL.n_non, DL.n_bl, DL.n_int, DL.n_str, DL.n_lst, DL.n_tup, DL.n_ref, DL.n_obj, DL.i_non_int, DL.i_non_bool, DL.i_non_str, DL.i_non_list, DL.i_non_tuple, DL.i_bl_int, DL.i_bl_bool, DL.i_bl_str, DL.i_bl_list, DL.i_bl_tuple, DL.i_int_int, DL.i_int_bool, DL.i_int_str, DL.i_int_list, DL.i_int_tuple, DL.i_str_int, DL.i_str_bool, DL.i_str_str, DL.i_str_list, DL.i_str_tuple, DL.i_lst_int, DL.i_lst_bool, DL.i_lst_str, DL.i_lst_list, DL.i_lst_tuple, DL.i_tup_int, DL.i_tup_bool, DL.i_tup_str, DL.i_tup_list, DL.i_tup_tuple, DL.t_non, DL.t_bl, DL.t_int, DL.t_lst, DL.t_tup, ↓DL.x_lst, ↓DL.x_tup, ↓DL.x_encP0, ↓DL.x_encP1, DL.ixn1_0, DL.ixn1_m1, DL.ixn2_0, DL.ixn2_1, DL.ixn2_m1, DL.ixn3_0, DL.ixn3_1, DL.ixn3_2, DL.ixn3_m1, DL.ixn4_0, DL.ixn4_1, DL.ixn4_2, DL.ixn4_3, DL.ixn4_m1, DL.ixn5_0, DL.ixn5_1, DL.ixn5_2, DL.ixn5_3, DL.ixn5_4, DL.ixn5_m1, DL.ixn6_0, DL.ixn6_1, DL.ixn6_2, DL.ixn6_3, DL.ixn6_4, DL.ixn6_5, DL.ixn6_m1, DL.ixn7_0, DL.ixn7_1, DL.ixn7_2, DL.ixn7_3, DL.ixn7_4, DL.ixn7_5, DL.ixn7_6, DL.ixn7_m1, DL.ixn8_0, DL.ixn8_1, DL.ixn8_2, DL.ixn8_3, DL.ixn8_4, DL.ixn8_5, DL.ixn8_6, DL.ixn8_7, DL.ixn8_m1, ↓DL.x1_0, ↓DL.x1_m1, ↓DL.x2_0, ↓DL.x2_1, ↓DL.x2_m1, ↓DL.x3_0, ↓DL.x3_1, ↓DL.x3_2, ↓DL.x3_m1, ↓DL.x4_0, ↓DL.x4_1, ↓DL.x4_2, ↓DL.x4_3, ↓DL.x4_m1, ↓DL.x5_0, ↓DL.x5_1, ↓DL.x5_2, ↓DL.x5_3, ↓DL.x5_4, ↓DL.x5_m1, ↓DL.x6_0, ↓DL.x6_1, ↓DL.x6_2, ↓DL.x6_3, ↓DL.x6_4, ↓DL.x6_5, ↓DL.x6_m1, ↓DL.x7_0, ↓DL.x7_1, ↓DL.x7_2, ↓DL.x7_3, ↓DL.x7_4, ↓DL.x7_5, ↓DL.x7_6, ↓DL.x7_m1, ↓DL.x8_0, ↓DL.x8_1, ↓DL.x8_2, ↓DL.x8_3, ↓DL.x8_4, ↓DL.x8_5, ↓DL.x8_6, ↓DL.x8_7, ↓DL.x8_m1, DL.c_abs, DL.c_max2, DL.c_min2, DL.c_int, DL.c_intb, DL.c_lenS, DL.c_lenT, DL.c_lenL, DL.c_listT, DL.c_listL, DL.c_tupT, DL.c_tupL, DL.c_sum, DL.c_sum0, DL.c_all, DL.c_any, DL.c_minP, DL.c_maxP, DL.c_sortP, DL.c_zip, DL.c_enum, DL.c_range1, DL.c_range2, DL.g_lst, DL.g_tup, DL.g_str, DL.p_int, DL.sq_lst, DL.sl_lst, DL.sl_tup, DL.sl_str, DL.slL_lst, DL.om_some, List.set_cons_zero, List.set_cons_succ, DL.m_tyL, DL.m_tyS, DL.m_ty, DL.m_app, DL.m_sto, DL.m_fzL, DL.m_fzI, DL.m_fzT, DL.m_fz, DL.x_ref, DL.c_lenR, DL.c_listR, DL.c_tupR, DL.sl_ref, DL.atL_new, DL.atL_new1, DL.atL_new2, DL.atL_old, DL.set_new, DL.set_new1, DL.set_new2, DL.set_old, DL.take_app, DL.app_app, DL.cons_app, DL.nil_app, DL.len_app1, DL.len_app2, DL.len_app3, DL.len_set, DL.seq_new, DL.seq_new1, DL.seq_new2, DL.seq_old, DL.ex_some, DL.fl_non, DL.fl_int, DL.fl_bl, DL.fl_str, DL.fl_tup, DL.fl_lst, DL.fl_obj, DL.fl_nil, DL.fl_cons, DL.fl_app, DL.fl_encP, Bool.and_self, Bool.and_true, Bool.true_and, List.set_set, ↓DL.w_yes, ↓DL.w_fld, ↓DL.w_mt, ↓DL.w_mtL, ↓DL.w_mt0, ↓DL.w_mt0L, ↓DL.w_ic, DL.isO_obj, ↓DL.w_make, ↓DL.w_b2M, ↓DL.w_b2MT, ↓DL.w_uM, ↓DL.w_inv, ↓DL.w_bin_obj, ↓DL.w_bin_int, ↓DL.w_fldS, DL.m_fld, DL.atI_new, DL.putD, ↓DL.w_repL, ↓DL.w_isiC, ↓DL.w_par3, ↓DL.wPar3_3, DL.m_count, DL.wretL_new, DL.wret_new, ↓DL.c_setSort, List.take_length, List.length_cons, List.length_nil, List.length_map, Int.cast_ofNat_Int, Bool.not_true, Bool.not_false, Int.reduceAdd, Int.reduceSub, Int.reduceMul, Int.reduceNeg, Int.reduceEq, Int.reduceLT, Int.reduceLE, Nat.reduceAdd, Nat.reduceSub, eq_self, not_true_eq_false, not_false_eq_true, false_implies, implies_true, true_implies, $ts,*])
open Lean in
local macro_rules | `(tactic| push_cast) => `(tactic| simp only [↓DL.r0, ↓DL.r1, ↓DL.r2, ↓DL.r3, ↓DL.r4, ↓DL.r5, ↓DL.r6, ↓DL.r7, ↓DL.r8, ↓DL.r9, ↓DL.r10, ↓DL.r11, ↓DL.r12, ↓DL.r13, ↓DL.r14, ↓DL.r15, ↓DL.r16, ↓DL.r17, ↓DL.r18, ↓DL.r19, ↓DL.r20, ↓DL.r21, ↓DL.r22, ↓DL.r23, ↓DL.r24, ↓DL.r25, ↓DL.r26, ↓DL.r27, ↓DL.r28, ↓DL.r29, DL.s0, DL.s1, DL.s2, DL.s3, DL.s4, DL.s5, DL.s6, DL.s7, DL.s8, DL.s9, DL.s10, DL.s11, DL.s12, DL.s13, DL.s14, DL.s15, DL.s16, DL.s17, DL.s18, DL.s19, DL.s20, DL.s21, DL.s22, DL.s23, DL.s24, DL.s25, DL.s26, DL.s27, DL.s28, DL.s29, DL.startD_cons, DL.startD_nil, DL.startD_zero, ↓DL.w_ok, ↓DL.w_some, ↓DL.w_somec, ↓DL.w_bind, ↓DL.w_opt, ↓DL.w_chg, ↓DL.w_kon, ↓DL.w_calm, ↓DL.w_b2, ↓DL.w_b2L, ↓DL.w_b1, ↓DL.wB_bl, ↓DL.w_asB, ↓DL.w_b2T, ↓DL.w_chE, ↓DL.w_chT, ↓DL.w_not, ↓DL.w_val, ↓DL.w_notE, ↓DL.w_ifE, ↓DL.w_ifL, ↓DL.w_andM, ↓DL.w_orM, ↓DL.w_andE, ↓DL.w_orE, ↓DL.w_nil, ↓DL.w_cons, ↓DL.w_tup, ↓DL.w_lst, ↓DL.w_frz, ↓DL.w_new, ↓DL.w_cel, ↓DL.w_cb, ↓DL.w_cbL, ↓DL.w_call, ↓DL.w_callL, ↓DL.w_ar0, ↓DL.w_ar1, ↓DL.w_ar2, ↓DL.w_ar3, ↓DL.w_ar4, ↓DL.w_ar5, ↓DL.w_ar6, ↓DL.w_noO, ↓DL.w_smO, ↓DL.w_sl, ↓DL.w_slL, ↓DL.w_rev, ↓DL.w_step, ↓DL.w_isi, ↓DL.w_sets, ↓DL.w_lrg, ↓DL.w_mth, ↓DL.w_mth0, ↓DL.w_itS, ↓DL.w_itR1, ↓DL.w_itR2, ↓DL.w_itR3, ↓DL.w_itZ, ↓DL.w_itN, ↓DL.w_lc, ↓DL.w_nx, ↓DL.w_rt, ↓DL.w_seq, ↓DL.w_set, ↓DL.wPar_2, ↓DL.w_par, ↓DL.w_aug, ↓DL.w_sto, ↓DL.w_exp, ↓DL.w_ret, ↓DL.w_retN, ↓DL.w_nxS, ↓DL.w_ifS, ↓DL.w_for, ↓DL.w_asg, ↓DL.w_stk, ↓DL.w_body, ↓DL.w_bodyL, ↓DL.wret_non, ↓DL.wret_bl, ↓DL.wret_int, ↓DL.wret_str, ↓DL.wif_t, ↓DL.wif_f, ↓DL.wif_d, ↓DL.wif_n, ↓DL.wif_a, ↓DL.wif_o, DL.few0, DL.few1, DL.few2, DL.few3, DL.few4, DL.few5, DL.few6, DL.few7, DL.few8, DL.few9, DL.few10, true_and, and_true, ↓DL.a_nm, ↓DL.a_tp1, ↓DL.a_tp2, ↓DL.a_tp3, ↓DL.a_tp4, ↓DL.a_tp5, ↓DL.a_tpn, ↓DL.a_tpm, ↓DL.a_encP, DL.wipe_nil, DL.wipe_cons, DL.o_add, DL.o_sub, DL.o_neg, ↓DL.o_mul, ↓DL.o_div, ↓DL.o_mod, DL.o_pow, ↓DL.o_p10_3, ↓DL.o_p10_4, ↓DL.o_p10_6, ↓DL.o_p10_8, ↓DL.o_p10_9, ↓DL.o_p10_12, ↓DL.o_p10_15, ↓DL.o_p10_18, ↓DL.o_p10_20, ↓DL.o_p10_25, ↓DL.o_p10_26, ↓DL.o_p10_27, ↓DL.o_p10_28, ↓DL.o_p10_29, ↓DL.o_p10_30, ↓DL.o_p10_31, ↓DL.o_p10_36, ↓DL.o_p10_38, ↓DL.o_p10_40, ↓DL.o_p10_42, ↓DL.o_p10_44, ↓DL.o_p10_46, ↓DL.o_p10_48, ↓DL.o_p10_50, ↓DL.o_p10_60, ↓DL.o_p10_64, ↓DL.o_p10_70, ↓DL.o_p10_90, ↓DL.o_p10_99, ↓DL.o_p10_100, ↓DL.o_addS, ↓DL.o_addT, ↓DL.o_catL, ↓DL.o_addL, DL.o_lt, DL.o_le, DL.o_gt, DL.o_ge, DL.o_eqI, DL.o_neI, DL.o_eqS, DL.o_neS, DL.o_is, DL.o_isn, DL.n_non, DL.n_bl, DL.n_int, DL.n_str, DL.n_lst, DL.n_tup, DL.n_ref, DL.n_obj, DL.i_non_int, DL.i_non_bool, DL.i_non_str, DL.i_non_list, DL.i_non_tuple, DL.i_bl_int, DL.i_bl_bool, DL.i_bl_str, DL.i_bl_list, DL.i_bl_tuple, DL.i_int_int, DL.i_int_bool, DL.i_int_str, DL.i_int_list, DL.i_int_tuple, DL.i_str_int, DL.i_str_bool, DL.i_str_str, DL.i_str_list, DL.i_str_tuple, DL.i_lst_int, DL.i_lst_bool, DL.i_lst_str, DL.i_lst_list, DL.i_lst_tuple, DL.i_tup_int, DL.i_tup_bool, DL.i_tup_str, DL.i_tup_list, DL.i_tup_tuple, DL.t_non, DL.t_bl, DL.t_int, DL.t_lst, DL.t_tup, ↓DL.x_lst, ↓DL.x_tup, ↓DL.x_encP0, ↓DL.x_encP1, DL.ixn1_0, DL.ixn1_m1, DL.ixn2_0, DL.ixn2_1, DL.ixn2_m1, DL.ixn3_0, DL.ixn3_1, DL.ixn3_2, DL.ixn3_m1, DL.ixn4_0, DL.ixn4_1, DL.ixn4_2, DL.ixn4_3, DL.ixn4_m1, DL.ixn5_0, DL.ixn5_1, DL.ixn5_2, DL.ixn5_3, DL.ixn5_4, DL.ixn5_m1, DL.ixn6_0, DL.ixn6_1, DL.ixn6_2, DL.ixn6_3, DL.ixn6_4, DL.ixn6_5, DL.ixn6_m1, DL.ixn7_0, DL.ixn7_1, DL.ixn7_2, DL.ixn7_3, DL.ixn7_4, DL.ixn7_5, DL.ixn7_6, DL.ixn7_m1, DL.ixn8_0, DL.ixn8_1, DL.ixn8_2, DL.ixn8_3, DL.ixn8_4, DL.ixn8_5, DL.ixn8_6, DL.ixn8_7, DL.ixn8_m1, ↓DL.x1_0, ↓DL.x1_m1, ↓DL.x2_0, ↓DL.x2_1, ↓DL.x2_m1, ↓DL.x3_0, ↓DL.x3_1, ↓DL.x3_2, ↓DL.x3_m1, ↓DL.x4_0, ↓DL.x4_1, ↓DL.x4_2, ↓DL.x4_3, ↓DL.x4_m1, ↓DL.x5_0, ↓DL.x5_1, ↓DL.x5_2, ↓DL.x5_3, ↓DL.x5_4, ↓DL.x5_m1, ↓DL.x6_0, ↓DL.x6_1, ↓DL.x6_2, ↓DL.x6_3, ↓DL.x6_4, ↓DL.x6_5, ↓DL.x6_m1, ↓DL.x7_0, ↓DL.x7_1, ↓DL.x7_2, ↓DL.x7_3, ↓DL.x7_4, ↓DL.x7_5, ↓DL.x7_6, ↓DL.x7_m1, ↓DL.x8_0, ↓DL.x8_1, ↓DL.x8_2, ↓DL.x8_3, ↓DL.x8_4, ↓DL.x8_5, ↓DL.x8_6, ↓DL.x8_7, ↓DL.x8_m1, DL.c_abs, DL.c_max2, DL.c_min2, DL.c_int, DL.c_intb, DL.c_lenS, DL.c_lenT, DL.c_lenL, DL.c_listT, DL.c_listL, DL.c_tupT, DL.c_tupL, DL.c_sum, DL.c_sum0, DL.c_all, DL.c_any, DL.c_minP, DL.c_maxP, DL.c_sortP, DL.c_zip, DL.c_enum, DL.c_range1, DL.c_range2, DL.g_lst, DL.g_tup, DL.g_str, DL.p_int, DL.sq_lst, DL.sl_lst, DL.sl_tup, DL.sl_str, DL.slL_lst, DL.om_some, List.set_cons_zero, List.set_cons_succ, DL.m_tyL, DL.m_tyS, DL.m_ty, DL.m_app, DL.m_sto, DL.m_fzL, DL.m_fzI, DL.m_fzT, DL.m_fz, DL.x_ref, DL.c_lenR, DL.c_listR, DL.c_tupR, DL.sl_ref, DL.atL_new, DL.atL_new1, DL.atL_new2, DL.atL_old, DL.set_new, DL.set_new1, DL.set_new2, DL.set_old, DL.take_app, DL.app_app, DL.cons_app, DL.nil_app, DL.len_app1, DL.len_app2, DL.len_app3, DL.len_set, DL.seq_new, DL.seq_new1, DL.seq_new2, DL.seq_old, DL.ex_some, DL.fl_non, DL.fl_int, DL.fl_bl, DL.fl_str, DL.fl_tup, DL.fl_lst, DL.fl_obj, DL.fl_nil, DL.fl_cons, DL.fl_app, DL.fl_encP, Bool.and_self, Bool.and_true, Bool.true_and, List.set_set, ↓DL.w_yes, ↓DL.w_fld, ↓DL.w_mt, ↓DL.w_mtL, ↓DL.w_mt0, ↓DL.w_mt0L, ↓DL.w_ic, DL.isO_obj, ↓DL.w_make, ↓DL.w_b2M, ↓DL.w_b2MT, ↓DL.w_uM, ↓DL.w_inv, ↓DL.w_bin_obj, ↓DL.w_bin_int, ↓DL.w_fldS, DL.m_fld, DL.atI_new, DL.putD, ↓DL.w_repL, ↓DL.w_isiC, ↓DL.w_par3, ↓DL.wPar3_3, DL.m_count, DL.wretL_new, DL.wret_new, ↓DL.c_setSort, List.take_length, List.length_cons, List.length_nil, List.length_map, Int.cast_ofNat_Int, Bool.not_true, Bool.not_false, Int.reduceAdd, Int.reduceSub, Int.reduceMul, Int.reduceNeg, Int.reduceEq, Int.reduceLT, Int.reduceLE, Nat.reduceAdd, Nat.reduceSub, eq_self, not_true_eq_false, not_false_eq_true, false_implies, implies_true, true_implies])
section
variable {S R : Cells} {E : Xc → Cells → Prop} {Q : D → Cells → Prop} {QL : List D → Cells → Prop}
theorem pond_wp {ns : List Int} {i : Int} (hi : 0 ≤ i) (hi2 : i < 100) (q : ∀ l : List D, flatL l = true → (∀ S : Cells, Pond (S ++ [⟨true, .lst l⟩]) S.length 0) → QL l S) : wp (g__law_pond [.lst (ns.map .int), .int i] S) QL E := by
  have em : okMul 179424673 i = true := sm_mul (sm_of (by decide) (by decide)) (sm_of hi (by omega))
  have key : ∀ a b : Int, 0 ≤ b → b < 10 ^ 50 → QL [.int a, .int b, .int 0] S := fun a b h1 h2 => q _ (by simp only [fl_cons, fl_int, fl_nil]; rfl) fun S => ⟨a, b, 0, by simp [pondL], h1, h2, Int.le_refl _, Int.le_refl _⟩
  push_cast [g__law_pond, B__law_pond, em]
  refine ⟨fun h => ?_, fun h => ⟨sm_mul (sm_of (by decide) (by decide)) (sm_of (by decide) (by decide)), key _ _ (by omega) (by omega)⟩⟩
  have hg : ns[i.toNat]? = some (ns.getD i.toNat 0) := by rw [List.getD_eq_getElem?_getD, List.getElem?_eq_getElem (by omega)]; rfl
  generalize ns.getD i.toNat 0 = a at hg
  have b1 := Int.emod_nonneg a (b := 100000000000000000000000000000000000133) (by decide)
  have b2 := Int.emod_lt_of_pos a (b := 100000000000000000000000000000000000133) (by decide)
  push_cast [wAt_map (enc := D.int) (k := i) (n := i.toNat) (by omega) hg, em]
  exact ⟨sm_mul (sm_of b1 (by omega)) (sm_of (by decide) (by decide)), key _ _ (by omega) (by omega)⟩
theorem many_wp {n k : Nat} {m : Int} (h : Pond S n k) (hk : k ≤ 10 ^ 11) (hm : 0 ≤ m) (hm2 : m ≤ 1000)
    (q : ∀ F S', MP.Asc 1 F → F.length ≤ m.toNat → (∀ p ∈ F, p.2.1 ≤ 5 * m ∧ p.2.2 ≤ 3) → Pond S' n (k + 5000) → Fr S S' n → QL (F.map encT) S') : wp (g__law_many [.ref n, .int m] S) QL E := by
  have zz := z24
  push_cast [g__law_many, B__law_many, w_rangeI hm (show m ≤ sizeLine by omega)]
  refine for_st (σ := Cells × List MP.T × Int × Int × Option D × Option D) (fun i : Nat => D.int i)
    (fun s => [some (.ref n), some (.int m), some (.ref S.length), some (.int s.2.2.1), some (.int s.2.2.2.1), s.2.2.2.2.1, s.2.2.2.2.2]) (fun s => s.1 ++ [⟨true, .lst (s.2.1.map encT)⟩])
    (fun s r => Pond s.1 n (k + 5 * s.2.1.length) ∧ Fr S s.1 n ∧ MP.Asc 1 s.2.1 ∧ (∀ p ∈ s.2.1, p.2.1 ≤ s.2.2.1 ∧ p.2.2 ≤ 3) ∧ 0 ≤ s.2.2.1 ∧ s.2.2.1 ≤ 5 * s.2.1.length ∧ s.2.1.length + r.length ≤ m.toNat ∧ 1 ≤ s.2.2.2.1 ∧ s.2.2.2.1 ≤ 3)
    (List.range m.toNat) (S, [], 0, 1, none, none) ⟨h.mono (by omega), Fr.refl _ _, trivial, by simp, Int.le_refl _, by simp, by simp, Int.le_refl _, by show (1 : Int) ≤ 3; decide⟩ ?_ ?_
  · rintro ⟨S2, F, last, often, x4, x5⟩ i r ⟨hp, hf, ha, hb, hl0, hl1, hz, ho⟩
    simp only [List.length_cons] at hp hf ha hb hl0 hl1 hz ho
    have fin : ∀ (S3 : Cells) (last' last2 often' : Int) (x4 x5 : Option D), Pond S3 n (k + 5 * F.length + 5) → Fr S S3 n → last ≤ last' → last' ≤ last + 2 → last' + 1 ≤ last2 → last2 ≤ last' + 3 → 1 ≤ often' → often' ≤ 3 →
        F.length < sizeLine ∧ ∃ s' : Cells × List MP.T × Int × Int × Option D × Option D, [some (D.ref n), some (D.int m), some (D.ref (List.length S)), some (D.int last2), some (D.int often'), x4, x5] = [some (D.ref n), some (D.int m), some (D.ref (List.length S)), some (D.int s'.2.2.1), some (D.int s'.2.2.2.1), s'.2.2.2.2.1, s'.2.2.2.2.2] ∧
          S3 ++ [⟨true, .lst (F.map encT ++ [.tup [.int (last' + 1), .int last2, .int often']])⟩] = s'.1 ++ [⟨true, .lst (s'.2.1.map encT)⟩] ∧ Pond s'.1 n (k + 5 * s'.2.1.length) ∧ Fr S s'.1 n ∧ MP.Asc 1 s'.2.1 ∧ (∀ p ∈ s'.2.1, p.2.1 ≤ s'.2.2.1 ∧ p.2.2 ≤ 3) ∧ 0 ≤ s'.2.2.1 ∧ s'.2.2.1 ≤ 5 * s'.2.1.length ∧ s'.2.1.length + r.length ≤ m.toNat ∧ 1 ≤ s'.2.2.2.1 ∧ s'.2.2.2.1 ≤ 3 := by
      intro S3 last' last2 often' x4 x5 hp hf l1 l2 l3 l4 o1 o2
      refine ⟨by omega, (S3, F ++ [(last' + 1, last2, often')], last2, often', x4, x5), rfl, by rw [List.map_append]; rfl, hp.mono (by simp; omega), hf, asc_snoc ha (fun q hq => by have := hb q hq; show _ < last' + 1; omega) (by show 1 ≤ last' + 1; omega) l3 (by show 0 < often'; omega), ?_, by show 0 ≤ last2; omega, ?_, ?_, o1, o2⟩
      · intro p hpm
        rcases List.mem_append.mp hpm with hpm | hpm
        · have := hb p hpm
          show _ ≤ last2 ∧ _
          omega
        · rw [List.mem_singleton] at hpm
          subst hpm
          exact ⟨Int.le_refl _, o2⟩
      · rw [List.length_append, List.length_singleton]
        show last2 ≤ _
        omega
      · rw [List.length_append, List.length_singleton]
        omega
    push_cast [L1__law_many]
    refine dip_wp hp (by omega) (by decide) (by decide) fun a1 S3 p0 p1 hp hf3 => ?_
    have hf := hf.trans hf3
    push_cast [hf.len]
    refine ⟨fun ha1 => ?_, fun ha1 => ?_⟩
    · refine dip_wp hp (by omega) (by decide) (by decide) fun a2 S4 r0 r1 hp hf4 => ?_
      have hf := hf.trans hf4
      push_cast [hf.len]
      refine dip_wp hp (by omega) (by decide) (by decide) fun a3 S5 s0 s1 hp hf5 => ?_
      have hf := hf.trans hf5
      push_cast [hf.len]
      refine dip_wp hp (by omega) (by decide) (by decide) fun a4 S6 t0 t1 hp hf6 => ?_
      have hf := hf.trans hf6
      push_cast [hf.len]
      exact fin S6 (last + a2) (last + a2 + 1 + a4) (1 + a3) _ _ (hp.mono (by omega)) hf (by omega) (by omega) (by omega) (by omega) (by omega) (by omega)
    · refine dip_wp hp (by omega) (by decide) (by decide) fun a4 S6 t0 t1 hp hf6 => ?_
      have hf := hf.trans hf6
      push_cast [hf.len]
      exact fin S6 last (last + 1 + a4) often _ _ (hp.mono (by omega)) hf (by omega) (by omega) (by omega) (by omega) ho.1 ho.2
  · rintro ⟨S2, F, last, often, x4, x5⟩ ⟨hp, hf, ha, hb, hl0, hl1, hz, ho⟩
    simp only [List.length_nil] at hp hf ha hb hl0 hl1 hz
    push_cast [hf.len]
    refine q F S2 ha (by omega) (fun p hp => ?_) (hp.mono (by omega)) hf
    have := hb p hp
    omega
theorem often_ok {F : List MP.T} {d : Int} : g__law_often [.lst (F.map encT), .int d] S = .ok (.int (MP.cnt F d)) S := by
  refine wp_ok ?_
  push_cast [g__law_often, B__law_often]
  refine comp_fil_wp encT (fun p => MP.inT p d) (fun p => .int p.2.2) F (fun p hp => ?_) ?_
  · unfold cStep
    push_cast [encT]
    simp only [MP.inT_iff]
    exact ⟨fun a => ⟨fun b => by rw [if_pos ⟨a, b⟩], fun b => by rw [if_neg fun z => b z.2]⟩, fun a => by rw [if_neg fun z => a z.1]⟩
  push_cast
  rw [cnt_filter_sum]
end

end K15
end
section
set_option maxHeartbeats 4000000
set_option exponentiation.threshold 3000
namespace K15
open PySem PySem.Spec L2 DL
open PyProof.Rows hiding St
open Lean in
local macro_rules | `(tactic| push_cast [$ts,*]) => `(tactic| simp only [↓DL.r0, ↓DL.r1, ↓DL.r2, ↓DL.r3, ↓DL.r4, ↓DL.r5, ↓DL.r6, ↓DL.r7, ↓DL.r8, ↓DL.r9, ↓DL.r10, ↓DL.r11, ↓DL.r12, ↓DL.r13, ↓DL.r14, ↓DL.r15, ↓DL.r16, ↓DL.r17, ↓DL.r18, ↓DL.r19, ↓DL.r20, ↓DL.r21, ↓DL.r22, ↓DL.r23, ↓DL.r24, ↓DL.r25, ↓DL.r26, ↓DL.r27, ↓DL.r28, ↓DL.r29, DL.s0, DL.s1, DL.s2, DL.s3, DL.s4, DL.s5, DL.s6, DL.s7, DL.s8, DL.s9, DL.s10, DL.s11, DL.s12, DL.s13, DL.s14, DL.s15, DL.s16, DL.s17, DL.s18, DL.s19, DL.s20, DL.s21, DL.s22, DL.s23, DL.s24, DL.s25, DL.s26, DL.s27, DL.s28, DL.s29, DL.startD_cons, DL.startD_nil, DL.startD_zero, ↓DL.w_ok, ↓DL.w_some, ↓DL.w_somec, ↓DL.w_bind, ↓DL.w_opt, ↓DL.w_chg, ↓DL.w_kon, ↓DL.w_calm, ↓DL.w_b2, ↓DL.w_b2L, ↓DL.w_b1, ↓DL.wB_bl, ↓DL.w_asB, ↓DL.w_b2T, ↓DL.w_chE, ↓DL.w_chT, ↓DL.w_not, ↓DL.w_val, ↓DL.w_notE, ↓DL.w_ifE, ↓DL.w_ifL, ↓DL.w_andM, ↓DL.w_orM, ↓DL.w_andE, ↓DL.w_orE, ↓DL.w_nil, ↓DL.w_cons, ↓DL.w_tup, ↓DL.w_lst, ↓DL.w_frz, ↓DL.w_new, ↓DL.w_cel, ↓DL.w_cb, ↓DL.w_cbL, ↓DL.w_call, ↓DL.w_callL, ↓DL.w_ar0, ↓DL.w_ar1, ↓DL.w_ar2, ↓DL.w_ar3, ↓DL.w_ar4, ↓DL.w_ar5, ↓DL.w_ar6, ↓DL.w_noO, ↓DL.w_smO, ↓DL.w_sl, ↓DL.w_slL, ↓DL.w_rev, ↓DL.w_step, ↓DL.w_isi, ↓DL.w_sets, ↓DL.w_lrg, ↓DL.w_mth, ↓DL.w_mth0, ↓DL.w_itS, ↓DL.w_itR1, ↓DL.w_itR2, ↓DL.w_itR3, ↓DL.w_itZ, ↓DL.w_itN, ↓DL.w_lc, ↓DL.w_nx, ↓DL.w_rt, ↓DL.w_seq, ↓DL.w_set, ↓DL.wPar_2, ↓DL.w_par, ↓DL.w_aug, ↓DL.w_sto, ↓DL.w_exp, ↓DL.w_ret, ↓DL.w_retN, ↓DL.w_nxS, ↓DL.w_ifS, ↓DL.w_for, ↓DL.w_asg, ↓DL.w_stk, ↓DL.w_body, ↓DL.w_bodyL, ↓DL.wret_non, ↓DL.wret_bl, ↓DL.wret_int, ↓DL.wret_str, ↓DL.wif_t, ↓DL.wif_f, ↓DL.wif_d, ↓DL.wif_n, ↓DL.wif_a, ↓DL.wif_o, DL.few0, DL.few1, DL.few2, DL.few3, DL.few4, DL.few5, DL.few6, DL.few7, DL.few8, DL.few9, DL.few10, true_and, and_true, ↓DL.a_nm, ↓DL.a_tp1, ↓DL.a_tp2, ↓DL.a_tp3, ↓DL.a_tp4, ↓DL.a_tp5, ↓DL.a_tpn, ↓DL.a_tpm, ↓DL.a_encP, DL.wipe_nil, DL.wipe_cons, DL.o_add, DL.o_sub, DL.o_neg, ↓DL.o_mul, ↓DL.o_div, ↓DL.o_mod, DL.o_pow, ↓DL.o_p10_3, ↓DL.o_p10_4, ↓DL.o_p10_6, ↓DL.o_p10_8, ↓DL.o_p10_9, ↓DL.o_p10_12, ↓DL.o_p10_15, ↓DL.o_p10_18, ↓DL.o_p10_20, ↓DL.o_p10_25, ↓DL.o_p10_26, ↓DL.o_p10_27, ↓DL.o_p10_28, ↓DL.o_p10_29, ↓DL.o_p10_30, ↓DL.o_p10_31, ↓DL.o_p10_36, ↓DL.o_p10_38, ↓DL.o_p10_40, ↓DL.o_p10_42, ↓DL.o_p10_44, ↓DL.o_p10_46, ↓DL.o_p10_48, ↓DL.o_p10_50, ↓DL.o_p10_60, ↓DL.o_p10_64, ↓DL.o_p10_70, ↓DL.o_p10_90, ↓DL.o_p10_99, ↓DL.o_p10_100, ↓DL.o_addS, ↓DL.o_addT, ↓DL.o_catL, ↓DL.o_addL, DL.o_lt, DL.o_le, DL.o_gt, DL.o_ge, DL.o_eqI, DL.o_neI, DL.o_eqS, DL.o_neS, DL.o_is, DL.o_isn, DL.n_non, DL.n_bl, DL.n_int, DL.n_str, DL.n_lst, DL.n_tup, DL.n_ref, DL.n_obj, DL.i_non_int, DL.i_non_bool, DL.i_non_str, DL.i_non_list, DL.i_non_tuple, DL.i_bl_int, DL.i_bl_bool, DL.i_bl_str, DL.i_bl_list, DL.i_bl_tuple, DL.i_int_int, DL.i_int_bool, DL.i_int_str, DL.i_int_list, DL.i_int_tuple, DL.i_str_int, DL.i_str_bool, DL.i_str_str, DL.i_str_list, DL.i_str_tuple, DL.i_lst_int, DL.i_lst_bool, DL.i_lst_str, DL.i_lst_list, DL.i_lst_tuple, DL.i_tup_int, DL.i_tup_bool, DL.i_tup_str, DL.i_tup_list, DL.i_tup_tuple, DL.t_non, DL.t_bl, DL.t_int, DL.t_lst, DL.t_tup, ↓DL.x_lst, ↓DL.x_tup, ↓DL.x_encP0, ↓DL.x_encP1, DL.ixn1_0, DL.ixn1_m1, DL.ixn2_0, DL.ixn2_1, DL.ixn2_m1, DL.ixn3_0, DL.ixn3_1, DL.ixn3_2, DL.ixn3_m1, DL.ixn4_0, DL.ixn4_1, DL.ixn4_2, DL.ixn4_3, DL.ixn4_m1, DL.ixn5_0, DL.ixn5_1, DL.ixn5_2, DL.ixn5_3, DL.ixn5_4, DL.ixn5_m1, DL.ixn6_0, DL.ixn6_1, DL.ixn6_2, DL.ixn6_3, DL.ixn6_4, DL.ixn6_5, DL.ixn6_m1, DL.ixn7_0, DL.ixn7_1, DL.ixn7_2, DL.ixn7_3, DL.ixn7_4, DL.ixn7_5, DL.ixn7_6, DL.ixn7_m1, DL.ixn8_0, DL.ixn8_1, DL.ixn8_2, DL.ixn8_3, DL.ixn8_4, DL.ixn8_5, DL.ixn8_6, DL.ixn8_7, DL.ixn8_m1, ↓DL.x1_0, ↓DL.x1_m1, ↓DL.x2_0, ↓DL.x2_1, ↓DL.x2_m1, ↓DL.x3_0, ↓DL.x3_1, ↓DL.x3_2, ↓DL.x3_m1, ↓DL.x4_0, ↓DL.x4_1, ↓DL.x4_2, ↓DL.x4_3, ↓DL.x4_m1, ↓DL.x5_0, ↓DL.x5_1, ↓DL.x5_2, ↓DL.x5_3, ↓DL.x5_4, ↓DL.x5_m1, ↓DL.x6_0, ↓DL.x6_1, ↓DL.x6_2, ↓DL.x6_3, ↓DL.x6_4, ↓DL.x6_5, ↓DL.x6_m1, ↓DL.x7_0, ↓DL.x7_1, ↓DL.x7_2, ↓DL.x7_3, ↓DL.x7_4, ↓DL.x7_5, ↓DL.x7_6, ↓DL.x7_m1, ↓DL.x8_0, ↓DL.x8_1, ↓DL.x8_2, ↓DL.x8_3, ↓DL.x8_4, ↓DL.x8_5, ↓DL.x8_6, ↓DL.x8_7, ↓DL.x8_m1, DL.c_abs, DL.c_max2, DL.c_min2, DL.c_int, DL.c_intb, DL.c_lenS, DL.c_lenT, DL.c_lenL, DL.c_listT, DL.c_listL, DL.c_tupT, DL.c_tupL, DL.c_sum, DL.c_sum0, DL.c_all, DL.c_any, DL.c_minP, DL.c_maxP, DL.c_sortP, DL.c_zip, DL.c_enum, DL.c_range1, DL.c_range2, DL.g_lst, DL.g_tup, DL.g_str, DL.p_int, DL.sq_lst, DL.sl_lst, DL.sl_tup, DL.sl_str, DL.slL_lst, DL.om_some, List.set_cons_zero, List.set_cons_succ, DL.m_tyL, DL.m_tyS, DL.m_ty, DL.m_app, DL.m_sto, DL.m_fzL, DL.m_fzI, DL.m_fzT, DL.m_fz, DL.x_ref, DL.c_lenR, DL.c_listR, DL.c_tupR, DL.sl_ref, DL.atL_new, DL.atL_new1, DL.atL_new2, DL.atL_old, DL.set_new, DL.set_new1, DL.set_new2, DL.set_old, DL.take_app, DL.app_app, DL.cons_app, DL.nil_app, DL.len_app1, DL.len_app2, DL.len_app3, DL.len_set, DL.seq_new, DL.seq_new1, DL.seq_new2, DL.seq_old, DL.ex_some, DL.fl_non, DL.fl_int, DL.fl_bl, DL.fl_str, DL.fl_tup, DL.fl_lst, DL.fl_obj, DL.fl_nil, DL.fl_cons, DL.fl_app, DL.fl_encP, Bool.and_self, Bool.and_true, Bool.true_and, List.set_set, ↓DL.w_yes, ↓DL.w_fld, ↓DL.w_mt, ↓DL.w_mtL, ↓DL.w_mt0, ↓DL.w_mt0L, ↓DL.w_ic, DL.isO_obj, ↓DL.w_make, ↓DL.w_b2M, ↓DL.w_b2MT, ↓DL.w_uM, ↓DL.w_inv, ↓DL.w_bin_obj, ↓DL.w_bin_int, ↓DL.w_fldS, DL.m_fld, DL.atI_new, DL.putD, ↓DL.w_repL, ↓DL.w_isiC, ↓DL.w_par3, ↓DL.wPar3_3, DL.m_count, DL.wretL_new, DL.wret_new, ↓DL.c_setSort, List.take_length, List.length_cons, List.length_nil, List.length_map, Int.cast_ofNat_Int, Bool.not_true, Bool.not_false, Int.reduceAdd, Int.reduceSub, Int.reduceMul, Int.reduceNeg, Int.reduceEq, Int.reduceLT, Int.reduceLE, Nat.reduceAdd, Nat.reduceSub, eq_self, not_true_eq_false, not_false_eq_true, false_implies, implies_true, true_implies, $ts,*])
open Lean in
local macro_rules | `(tactic| push_cast) => `(tactic| simp only [↓DL.r0, ↓DL.r1, ↓DL.r2, ↓DL.r3, ↓DL.r4, ↓DL.r5, ↓DL.r6, ↓DL.r7, ↓DL.r8, ↓DL.r9, ↓DL.r10, ↓DL.r11, ↓DL.r12, ↓DL.r13, ↓DL.r14, ↓DL.r15, ↓DL.r16, ↓DL.r17, ↓DL.r18, ↓DL.r19, ↓DL.r20, ↓DL.r21, ↓DL.r22, ↓DL.r23, ↓DL.r24, ↓DL.r25, ↓DL.r26, ↓DL.r27, ↓DL.r28, ↓DL.r29, DL.s0, DL.s1, DL.s2, DL.s3, DL.s4, DL.s5, DL.s6, DL.s7, DL.s8, DL.s9, DL.s10, DL.s11, DL.s12, DL.s13, DL.s14, DL.s15, DL.s16, DL.s17, DL.s18, DL.s19, DL.s20, DL.s21, DL.s22, DL.s23, DL.s24, DL.s25, DL.s26, DL.s27, DL.s28, DL.s29, DL.startD_cons, DL.startD_nil, DL.startD_zero, ↓DL.w_ok, ↓DL.w_some, ↓DL.w_somec, ↓DL.w_bind, ↓DL.w_opt, ↓DL.w_chg, ↓DL.w_kon, ↓DL.w_calm, ↓DL.w_b2, ↓DL.w_b2L, ↓DL.w_b1, ↓DL.wB_bl, ↓DL.w_asB, ↓DL.w_b2T, ↓DL.w_chE, ↓DL.w_chT, ↓DL.w_not, ↓DL.w_val, ↓DL.w_notE, ↓DL.w_ifE, ↓DL.w_ifL, ↓DL.w_andM, ↓DL.w_orM, ↓DL.w_andE, ↓DL.w_orE, ↓DL.w_nil, ↓DL.w_cons, ↓DL.w_tup, ↓DL.w_lst, ↓DL.w_frz, ↓DL.w_new, ↓DL.w_cel, ↓DL.w_cb, ↓DL.w_cbL, ↓DL.w_call, ↓DL.w_callL, ↓DL.w_ar0, ↓DL.w_ar1, ↓DL.w_ar2, ↓DL.w_ar3, ↓DL.w_ar4, ↓DL.w_ar5, ↓DL.w_ar6, ↓DL.w_noO, ↓DL.w_smO, ↓DL.w_sl, ↓DL.w_slL, ↓DL.w_rev, ↓DL.w_step, ↓DL.w_isi, ↓DL.w_sets, ↓DL.w_lrg, ↓DL.w_mth, ↓DL.w_mth0, ↓DL.w_itS, ↓DL.w_itR1, ↓DL.w_itR2, ↓DL.w_itR3, ↓DL.w_itZ, ↓DL.w_itN, ↓DL.w_lc, ↓DL.w_nx, ↓DL.w_rt, ↓DL.w_seq, ↓DL.w_set, ↓DL.wPar_2, ↓DL.w_par, ↓DL.w_aug, ↓DL.w_sto, ↓DL.w_exp, ↓DL.w_ret, ↓DL.w_retN, ↓DL.w_nxS, ↓DL.w_ifS, ↓DL.w_for, ↓DL.w_asg, ↓DL.w_stk, ↓DL.w_body, ↓DL.w_bodyL, ↓DL.wret_non, ↓DL.wret_bl, ↓DL.wret_int, ↓DL.wret_str, ↓DL.wif_t, ↓DL.wif_f, ↓DL.wif_d, ↓DL.wif_n, ↓DL.wif_a, ↓DL.wif_o, DL.few0, DL.few1, DL.few2, DL.few3, DL.few4, DL.few5, DL.few6, DL.few7, DL.few8, DL.few9, DL.few10, true_and, and_true, ↓DL.a_nm, ↓DL.a_tp1, ↓DL.a_tp2, ↓DL.a_tp3, ↓DL.a_tp4, ↓DL.a_tp5, ↓DL.a_tpn, ↓DL.a_tpm, ↓DL.a_encP, DL.wipe_nil, DL.wipe_cons, DL.o_add, DL.o_sub, DL.o_neg, ↓DL.o_mul, ↓DL.o_div, ↓DL.o_mod, DL.o_pow, ↓DL.o_p10_3, ↓DL.o_p10_4, ↓DL.o_p10_6, ↓DL.o_p10_8, ↓DL.o_p10_9, ↓DL.o_p10_12, ↓DL.o_p10_15, ↓DL.o_p10_18, ↓DL.o_p10_20, ↓DL.o_p10_25, ↓DL.o_p10_26, ↓DL.o_p10_27, ↓DL.o_p10_28, ↓DL.o_p10_29, ↓DL.o_p10_30, ↓DL.o_p10_31, ↓DL.o_p10_36, ↓DL.o_p10_38, ↓DL.o_p10_40, ↓DL.o_p10_42, ↓DL.o_p10_44, ↓DL.o_p10_46, ↓DL.o_p10_48, ↓DL.o_p10_50, ↓DL.o_p10_60, ↓DL.o_p10_64, ↓DL.o_p10_70, ↓DL.o_p10_90, ↓DL.o_p10_99, ↓DL.o_p10_100, ↓DL.o_addS, ↓DL.o_addT, ↓DL.o_catL, ↓DL.o_addL, DL.o_lt, DL.o_le, DL.o_gt, DL.o_ge, DL.o_eqI, DL.o_neI, DL.o_eqS, DL.o_neS, DL.o_is, DL.o_isn, DL.n_non, DL.n_bl, DL.n_int, DL.n_str, DL.n_lst, DL.n_tup, DL.n_ref, DL.n_obj, DL.i_non_int, DL.i_non_bool, DL.i_non_str, DL.i_non_list, DL.i_non_tuple, DL.i_bl_int, DL.i_bl_bool, DL.i_bl_str, DL.i_bl_list, DL.i_bl_tuple, DL.i_int_int, DL.i_int_bool, DL.i_int_str, DL.i_int_list, DL.i_int_tuple, DL.i_str_int, DL.i_str_bool, DL.i_str_str, DL.i_str_list, DL.i_str_tuple, DL.i_lst_int, DL.i_lst_bool, DL.i_lst_str, DL.i_lst_list, DL.i_lst_tuple, DL.i_tup_int, DL.i_tup_bool, DL.i_tup_str, DL.i_tup_list, DL.i_tup_tuple, DL.t_non, DL.t_bl, DL.t_int, DL.t_lst, DL.t_tup, ↓DL.x_lst, ↓DL.x_tup, ↓DL.x_encP0, ↓DL.x_encP1, DL.ixn1_0, DL.ixn1_m1, DL.ixn2_0, DL.ixn2_1, DL.ixn2_m1, DL.ixn3_0, DL.ixn3_1, DL.ixn3_2, DL.ixn3_m1, DL.ixn4_0, DL.ixn4_1, DL.ixn4_2, DL.ixn4_3, DL.ixn4_m1, DL.ixn5_0, DL.ixn5_1, DL.ixn5_2, DL.ixn5_3, DL.ixn5_4, DL.ixn5_m1, DL.ixn6_0, DL.ixn6_1, DL.ixn6_2, DL.ixn6_3, DL.ixn6_4, DL.ixn6_5, DL.ixn6_m1, DL.ixn7_0, DL.ixn7_1, DL.ixn7_2, DL.ixn7_3, DL.ixn7_4, DL.ixn7_5, DL.ixn7_6, DL.ixn7_m1, DL.ixn8_0, DL.ixn8_1, DL.ixn8_2, DL.ixn8_3, DL.ixn8_4, DL.ixn8_5, DL.ixn8_6, DL.ixn8_7, DL.ixn8_m1, ↓DL.x1_0, ↓DL.x1_m1, ↓DL.x2_0, ↓DL.x2_1, ↓DL.x2_m1, ↓DL.x3_0, ↓DL.x3_1, ↓DL.x3_2, ↓DL.x3_m1, ↓DL.x4_0, ↓DL.x4_1, ↓DL.x4_2, ↓DL.x4_3, ↓DL.x4_m1, ↓DL.x5_0, ↓DL.x5_1, ↓DL.x5_2, ↓DL.x5_3, ↓DL.x5_4, ↓DL.x5_m1, ↓DL.x6_0, ↓DL.x6_1, ↓DL.x6_2, ↓DL.x6_3, ↓DL.x6_4, ↓DL.x6_5, ↓DL.x6_m1, ↓DL.x7_0, ↓DL.x7_1, ↓DL.x7_2, ↓DL.x7_3, ↓DL.x7_4, ↓DL.x7_5, ↓DL.x7_6, ↓DL.x7_m1, ↓DL.x8_0, ↓DL.x8_1, ↓DL.x8_2, ↓DL.x8_3, ↓DL.x8_4, ↓DL.x8_5, ↓DL.x8_6, ↓DL.x8_7, ↓DL.x8_m1, DL.c_abs, DL.c_max2, DL.c_min2, DL.c_int, DL.c_intb, DL.c_lenS, DL.c_lenT, DL.c_lenL, DL.c_listT, DL.c_listL, DL.c_tupT, DL.c_tupL, DL.c_sum, DL.c_sum0, DL.c_all, DL.c_any, DL.c_minP, DL.c_maxP, DL.c_sortP, DL.c_zip, DL.c_enum, DL.c_range1, DL.c_range2, DL.g_lst, DL.g_tup, DL.g_str, DL.p_int, DL.sq_lst, DL.sl_lst, DL.sl_tup, DL.sl_str, DL.slL_lst, DL.om_some, List.set_cons_zero, List.set_cons_succ, DL.m_tyL, DL.m_tyS, DL.m_ty, DL.m_app, DL.m_sto, DL.m_fzL, DL.m_fzI, DL.m_fzT, DL.m_fz, DL.x_ref, DL.c_lenR, DL.c_listR, DL.c_tupR, DL.sl_ref, DL.atL_new, DL.atL_new1, DL.atL_new2, DL.atL_old, DL.set_new, DL.set_new1, DL.set_new2, DL.set_old, DL.take_app, DL.app_app, DL.cons_app, DL.nil_app, DL.len_app1, DL.len_app2, DL.len_app3, DL.len_set, DL.seq_new, DL.seq_new1, DL.seq_new2, DL.seq_old, DL.ex_some, DL.fl_non, DL.fl_int, DL.fl_bl, DL.fl_str, DL.fl_tup, DL.fl_lst, DL.fl_obj, DL.fl_nil, DL.fl_cons, DL.fl_app, DL.fl_encP, Bool.and_self, Bool.and_true, Bool.true_and, List.set_set, ↓DL.w_yes, ↓DL.w_fld, ↓DL.w_mt, ↓DL.w_mtL, ↓DL.w_mt0, ↓DL.w_mt0L, ↓DL.w_ic, DL.isO_obj, ↓DL.w_make, ↓DL.w_b2M, ↓DL.w_b2MT, ↓DL.w_uM, ↓DL.w_inv, ↓DL.w_bin_obj, ↓DL.w_bin_int, ↓DL.w_fldS, DL.m_fld, DL.atI_new, DL.putD, ↓DL.w_repL, ↓DL.w_isiC, ↓DL.w_par3, ↓DL.wPar3_3, DL.m_count, DL.wretL_new, DL.wret_new, ↓DL.c_setSort, List.take_length, List.length_cons, List.length_nil, List.length_map, Int.cast_ofNat_Int, Bool.not_true, Bool.not_false, Int.reduceAdd, Int.reduceSub, Int.reduceMul, Int.reduceNeg, Int.reduceEq, Int.reduceLT, Int.reduceLE, Nat.reduceAdd, Nat.reduceSub, eq_self, not_true_eq_false, not_false_eq_true, false_implies, implies_true, true_implies])
/-! k15: the class -/
section
variable {S R : Cells} {E : Xc → Cells → Prop} {Q : D → Cells → Prop} {QL : List D → Cells → Prop}
theorem joined_okT {l : List MP.T} (hz : l.length ≤ 10000) : g_joined_pieces [.tup (l.map encT)] S = .ok (.lst ((MP.fin l).map encT)) S := by
  have zz := z24
  refine wp_ok ?_
  push_cast [g_joined_pieces, B_joined_pieces]
  refine comp_map_wp encT (fun p => encP (p.1, p.2.2)) l (fun a ha => ?_) ?_
  · unfold cStep
    push_cast [encT]
    rfl
  push_cast
  refine comp_map_wp encT (fun p => encP (p.2.1 + 1, 0 - p.2.2)) l (fun a ha => ?_) ?_
  · unfold cStep
    push_cast [encT]
    rfl
  push_cast
  refine ⟨by omega, ?_⟩
  rw [show l.map (fun p => encP (p.1, p.2.2)) ++ l.map (fun p => encP (p.2.1 + 1, 0 - p.2.2)) = (MP.evs l).map encP by unfold MP.evs; rw [List.map_append, List.map_map, List.map_map]; rfl]
  have hp := (MP.sortP_perm (MP.evs l)).length_eq
  have he : (MP.evs l).length = 2 * l.length := by unfold MP.evs; rw [List.length_append, List.length_map, List.length_map]; omega
  push_cast
  refine row_loop _ (by omega) fun x5 x6 R o b hR hl => ?_
  have eR : MP.rows (sortP (MP.evs l)) = R := by unfold MP.rows; rw [hR]
  have gz : ∀ {k : Nat}, k < R.length → R[k]? = some (R.getD k (0, 0, 0)) := fun {k} hk => by rw [List.getD_eq_getElem?_getD, List.getElem?_eq_getElem hk]; rfl
  push_cast [w_rangeN (show R.length ≤ sizeLine by omega)]
  refine comp_fil_wp (fun k : Nat => D.int k) (MG.tst MP.same (0, 0, 0) R) (fun k : Nat => D.int k) (List.range R.length) (fun k hk => ?_) ?_
  · have hk := List.mem_range.mp hk
    unfold cStep
    cases k with
    | zero => push_cast; rfl
    | succ j =>
      push_cast [wAt_map (enc := encT) (k := ((j + 1 : Nat) : Int)) rfl (gz hk), wAt_map (enc := encT) (k := ((j + 1 : Nat) : Int) - 1) (n := j) (by omega) (gz (by omega)), encT]
      have et : MG.tst MP.same (0, 0, 0) R (j + 1) = !decide ((R.getD (j + 1) (0, 0, 0)).2.2 = (R.getD j (0, 0, 0)).2.2) := rfl
      rw [et]
      exact ⟨fun q => by omega, fun _ => ⟨fun q => by rw [decide_eq_true q]; rfl, fun q => by rw [decide_eq_false q]; rfl⟩⟩
  have hb := MG.begs_len MP.same (0, 0, 0) R
  have eb : List.filter (MG.tst MP.same (0, 0, 0) R) (List.range R.length) = MG.begs MP.same (0, 0, 0) R := rfl
  push_cast [cut_1]
  rw [eb]
  refine ⟨by rw [List.length_drop, List.length_map]; omega, ?_⟩
  rw [← List.map_drop, show ((MG.begs MP.same (0, 0, 0) R).drop 1).map (fun k : Nat => D.int k) ++ [D.int (R.length : Nat)] = ((MG.begs MP.same (0, 0, 0) R).drop 1 ++ [R.length]).map fun k : Nat => D.int k by rw [List.map_append]; rfl, pairsD_map, MG.prs_zip]
  refine comp_map_wp (fun q : Nat × Nat => D.tup [.int q.1, .int q.2]) (fun q => encT (MP.mk (MG.pick (0, 0, 0) R q))) _ (fun q hq => ?_) ?_
  · obtain ⟨h1, h2⟩ := MG.prs_mem _ _ _ hq
    have h3 := MG.prs_lt _ _ (MG.begs_sorted MP.same (0, 0, 0) R) q hq
    have h4 := MG.begs_lt MP.same (0, 0, 0) h1
    have h5 : q.2 ≤ R.length := by
      rcases h2 with h2 | h2
      · exact Nat.le_of_lt (MG.begs_lt MP.same (0, 0, 0) h2)
      · omega
    unfold cStep
    push_cast [wAt_map (enc := encT) (k := (q.1 : Int)) rfl (gz h4), wAt_map (enc := encT) (k := (q.2 : Int) - 1) (n := q.2 - 1) (by omega) (gz (by omega)), encT]
    rfl
  have ej : (MG.prs (MG.begs MP.same (0, 0, 0) R) R.length).map (fun q => encT (MP.mk (MG.pick (0, 0, 0) R q))) = (MP.jn R).map encT := by
    unfold MP.jn
    rw [← (MG.begs_grp MP.same (0, 0, 0) R).1, List.map_map, List.map_map]
    rfl
  rw [ej]
  push_cast
  refine comp_fil_wp encT (fun r => decide (0 < r.2.2)) encT (MP.jn R) (fun r hr => ?_) ?_
  · unfold cStep
    push_cast [encT]
    exact ⟨fun q => by rw [decide_eq_true q]; rfl, fun q => by rw [decide_eq_false q]; rfl⟩
  have ef : (MP.jn R).filter (fun r => decide (0 < r.2.2)) = MP.fin l := by unfold MP.fin; rw [eR]
  rw [ef]
  push_cast [wret_flat (show (D.lst ((MP.fin l).map encT)).flat = true by rw [fl_lst]; exact fl_ts)]
theorem fin_fin {l : List MP.T} (h : ∀ p ∈ l, 1 ≤ p.1 ∧ p.1 ≤ p.2.1 ∧ 0 ≤ p.2.2) : MP.fin (MP.fin l) = MP.fin l := MP.fin_canon (MP.fin_ok h).1
theorem pos_of {J : List MP.T} {lo : Int} (h1 : 1 ≤ lo) (h : MP.Asc lo J) : ∀ p ∈ J, 1 ≤ p.1 ∧ p.1 ≤ p.2.1 ∧ 0 ≤ p.2.2 := fun p hp => by have := h.mem p hp; omega
theorem pos_app {J K : List MP.T} (h : ∀ p ∈ J, 1 ≤ p.1 ∧ p.1 ≤ p.2.1 ∧ 0 ≤ p.2.2) (h' : ∀ p ∈ K, 1 ≤ p.1 ∧ p.1 ≤ p.2.1 ∧ 0 ≤ p.2.2) : ∀ p ∈ J ++ K, 1 ≤ p.1 ∧ p.1 ≤ p.2.1 ∧ 0 ≤ p.2.2 := fun p hp => (List.mem_append.mp hp).elim (h p) (h' p)
theorem fc {c : Int} {J : List MP.T} : fldD NMf [0] "own_cold" (prof c J) S = some (.int c) := ff_Profile_own_cold
theorem fp {c : Int} {J : List MP.T} : fldD NMf [0] "own_pieces" (prof c J) S = some (.tup (J.map encT)) := ff_Profile_own_pieces
theorem wr_prof {n : Nat} {c : Int} {J : List MP.T} : wret n S (prof c J) Q = Q (prof c J) (S.take n) := wret_flat fl_prof
theorem isi_prof {c : Int} {J : List MP.T} : isiCD tab_Profile (prof c J) S = some (.bl true) := rfl
theorem add_ok {a b : Int} {J K : List MP.T} (hc : 0 ≤ a + b) (hJ : MP.Canon 1 J) (hK : MP.Canon 1 K) (hz : J.length + K.length ≤ 5000) : g_Profile___add__ [prof a J, prof b K] S = .ok (prof (a + b) (MP.fin (J ++ K))) S := by
  have zz := z24
  have hp := pos_app (pos_of (Int.le_refl 1) hJ.asc) (pos_of (Int.le_refl 1) hK.asc)
  have hl := MP.fin_len (J ++ K)
  rw [List.length_append] at hl
  refine wp_ok ?_
  push_cast [g_Profile___add__, B_Profile___add__, isi_prof, fc, fp, g_profile_from, B_profile_from, ← List.map_append]
  refine ⟨by omega, ?_⟩
  push_cast [joined_okT (l := J ++ K) (by rw [List.length_append]; omega), make_ok hc (MP.fin_ok hp).1.asc (show (MP.fin (J ++ K)).length ≤ 10000 by omega), fin_fin hp, wr_prof]
theorem number_ok {t : Int} (h0 : 0 ≤ t) (h1 : t ≤ 10 ^ 30) : g_require_number [.int t, .int 0, .int 1000000000000000000000000000000] S = .ok .non S := by
  refine wp_ok ?_
  push_cast [g_require_number, B_require_number, g_in_range, B_in_range, is_int_int]
  exact ⟨fun _ q => absurd h1 q, fun q => absurd h0 q⟩
theorem mulB {i j : Int} (hi : 0 ≤ i ∧ i < 10 ^ 90) (hj : 0 ≤ j ∧ j < 10 ^ 90) : okMul i j = true := okMul_of 300 300 (lt_pow hi.1 hi.2 (by decide)) (lt_pow hj.1 hj.2 (by decide)) (by decide)
theorem multiplied_ok {t : Int} {J : List MP.T} (ht : 0 ≤ t ∧ t ≤ 10 ^ 30) (hb : ∀ p ∈ J, 0 ≤ p.2.2 ∧ p.2.2 < 10 ^ 90) : g_multiplied [.tup (J.map encT), .int t] S = .ok ((MP.sc t J).map encT) S := by
  have zz := z24
  refine wp_ok ?_
  push_cast [g_multiplied, B_multiplied]
  refine comp_fil_wp encT (fun _ => decide (t > 0)) (fun p => encT (p.1, p.2.1, t * p.2.2)) J (fun p hp => ?_) ?_
  · have := hb p hp
    unfold cStep
    push_cast [encT]
    exact ⟨fun q => ⟨mulB ⟨by omega, by omega⟩ this, by rw [decide_eq_true q]; rfl⟩, fun q => by rw [decide_eq_false q]; rfl⟩
  have e : (J.filter fun _ => decide (t > 0)).map (fun p => encT (p.1, p.2.1, t * p.2.2)) = (MP.sc t J).map encT := by
    unfold MP.sc
    by_cases h : t > 0
    · simp [h]
      rw [show J.filter (fun _ => true) = J from List.filter_eq_self.mpr fun _ _ => rfl]
      rfl
    · simp [h]
  rw [e]
  push_cast
  exact fl_ts
theorem mul_ok {c t : Int} {J : List MP.T} (hc : 0 ≤ c ∧ c < 10 ^ 90) (ht : 0 ≤ t ∧ t ≤ 10 ^ 30) (hJ : MP.Canon 1 J) (hb : ∀ p ∈ J, p.2.2 < 10 ^ 90) (hz : J.length ≤ 5000) : g_Profile___mul__ [prof c J, .int t] S = .ok (prof (c * t) (MP.sc t J)) S := by
  have zz := z24
  have hs := MP.canon_sc (t := t) hJ
  have hl := MP.len_sc (t := t) (J := J)
  refine wp_ok ?_
  push_cast [g_Profile___mul__, B_Profile___mul__, number_ok ht.1 ht.2, fc, fp, g_profile_from, B_profile_from]
  refine ⟨mulB hc ⟨by omega, by omega⟩, ?_⟩
  push_cast [multiplied_ok (J := J) ht fun p hp => ⟨Int.le_of_lt (hJ.asc.mem p hp).2.2, hb p hp⟩, joined_ok (l := MP.sc t J) (by omega), MP.fin_canon hs, make_ok (Int.mul_nonneg hc.1 ht.1) hs.asc (show (MP.sc t J).length ≤ 10000 by omega), wr_prof]
end

end K15
end
section
set_option maxHeartbeats 4000000
set_option exponentiation.threshold 3000
namespace K15
open PySem PySem.Spec L2 DL
open PyProof.Rows hiding St
open Lean in
local macro_rules | `(tactic| push_cast [$ts,*]) => `(tactic| simp only [↓DL.r0, ↓DL.r1, ↓DL.r2, ↓DL.r3, ↓DL.r4, ↓DL.r5, ↓DL.r6, ↓DL.r7, ↓DL.r8, ↓DL.r9, ↓DL.r10, ↓DL.r11, ↓DL.r12, ↓DL.r13, ↓DL.r14, ↓DL.r15, ↓DL.r16, ↓DL.r17, ↓DL.r18, ↓DL.r19, ↓DL.r20, ↓DL.r21, ↓DL.r22, ↓DL.r23, ↓DL.r24, ↓DL.r25, ↓DL.r26, ↓DL.r27, ↓DL.r28, ↓DL.r29, DL.s0, DL.s1, DL.s2, DL.s3, DL.s4, DL.s5, DL.s6, DL.s7, DL.s8, DL.s9, DL.s10, DL.s11, DL.s12, DL.s13, DL.s14, DL.s15, DL.s16, DL.s17, DL.s18, DL.s19, DL.s20, DL.s21, DL.s22, DL.s23, DL.s24, DL.s25, DL.s26, DL.s27, DL.s28, DL.s29, DL.startD_cons, DL.startD_nil, DL.startD_zero, ↓DL.w_ok, ↓DL.w_some, ↓DL.w_somec, ↓DL.w_bind, ↓DL.w_opt, ↓DL.w_chg, ↓DL.w_kon, ↓DL.w_calm, ↓DL.w_b2, ↓DL.w_b2L, ↓DL.w_b1, ↓DL.wB_bl, ↓DL.w_asB, ↓DL.w_b2T, ↓DL.w_chE, ↓DL.w_chT, ↓DL.w_not, ↓DL.w_val, ↓DL.w_notE, ↓DL.w_ifE, ↓DL.w_ifL, ↓DL.w_andM, ↓DL.w_orM, ↓DL.w_andE, ↓DL.w_orE, ↓DL.w_nil, ↓DL.w_cons, ↓DL.w_tup, ↓DL.w_lst, ↓DL.w_frz, ↓DL.w_new, ↓DL.w_cel, ↓DL.w_cb, ↓DL.w_cbL, ↓DL.w_call, ↓DL.w_callL, ↓DL.w_ar0, ↓DL.w_ar1, ↓DL.w_ar2, ↓DL.w_ar3, ↓DL.w_ar4, ↓DL.w_ar5, ↓DL.w_ar6, ↓DL.w_noO, ↓DL.w_smO, ↓DL.w_sl, ↓DL.w_slL, ↓DL.w_rev, ↓DL.w_step, ↓DL.w_isi, ↓DL.w_sets, ↓DL.w_lrg, ↓DL.w_mth, ↓DL.w_mth0, ↓DL.w_itS, ↓DL.w_itR1, ↓DL.w_itR2, ↓DL.w_itR3, ↓DL.w_itZ, ↓DL.w_itN, ↓DL.w_lc, ↓DL.w_nx, ↓DL.w_rt, ↓DL.w_seq, ↓DL.w_set, ↓DL.wPar_2, ↓DL.w_par, ↓DL.w_aug, ↓DL.w_sto, ↓DL.w_exp, ↓DL.w_ret, ↓DL.w_retN, ↓DL.w_nxS, ↓DL.w_ifS, ↓DL.w_for, ↓DL.w_asg, ↓DL.w_stk, ↓DL.w_body, ↓DL.w_bodyL, ↓DL.wret_non, ↓DL.wret_bl, ↓DL.wret_int, ↓DL.wret_str, ↓DL.wif_t, ↓DL.wif_f, ↓DL.wif_d, ↓DL.wif_n, ↓DL.wif_a, ↓DL.wif_o, DL.few0, DL.few1, DL.few2, DL.few3, DL.few4, DL.few5, DL.few6, DL.few7, DL.few8, DL.few9, DL.few10, true_and, and_true, ↓DL.a_nm, ↓DL.a_tp1, ↓DL.a_tp2, ↓DL.a_tp3, ↓DL.a_tp4, ↓DL.a_tp5, ↓DL.a_tpn, ↓DL.a_tpm, ↓DL.a_encP, DL.wipe_nil, DL.wipe_cons, DL.o_add, DL.o_sub, DL.o_neg, ↓DL.o_mul, ↓DL.o_div, ↓DL.o_mod, DL.o_pow, ↓DL.o_p10_3, ↓DL.o_p10_4, ↓DL.o_p10_6, ↓DL.o_p10_8, ↓DL.o_p10_9, ↓DL.o_p10_12, ↓DL.o_p10_15, ↓DL.o_p10_18, ↓DL.o_p10_20, ↓DL.o_p10_25, ↓DL.o_p10_26, ↓DL.o_p10_27, ↓DL.o_p10_28, ↓DL.o_p10_29, ↓DL.o_p10_30, ↓DL.o_p10_31, ↓DL.o_p10_36, ↓DL.o_p10_38, ↓DL.o_p10_40, ↓DL.o_p10_42, ↓DL.o_p10_44, ↓DL.o_p10_46, ↓DL.o_p10_48, ↓DL.o_p10_50, ↓DL.o_p10_60, ↓DL.o_p10_64, ↓DL.o_p10_70, ↓DL.o_p10_90, ↓DL.o_p10_99, ↓DL.o_p10_100, ↓DL.o_addS, ↓DL.o_addT, ↓DL.o_catL, ↓DL.o_addL, DL.o_lt, DL.o_le, DL.o_gt, DL.o_ge, DL.o_eqI, DL.o_neI, DL.o_eqS, DL.o_neS, DL.o_is, DL.o_isn, DL.n_non, DL.n_bl, DL.n_int, DL.n_str, DL.n_lst, DL.n_tup, DL.n_ref, DL.n_obj, DL.i_non_int, DL.i_non_bool, DL.i_non_str, DL.i_non_list, DL.i_non_tuple, DL.i_bl_int, DL.i_bl_bool, DL.i_bl_str, DL.i_bl_list, DL.i_bl_tuple, DL.i_int_int, DL.i_int_bool, DL.i_int_str, DL.i_int_list, DL.i_int_tuple, DL.i_str_int, DL.i_str_bool, DL.i_str_str, DL.i_str_list, DL.i_str_tuple, DL.i_lst_int, DL.i_lst_bool, DL.i_lst_str, DL.i_lst_list, DL.i_lst_tuple, DL.i_tup_int, DL.i_tup_bool, DL.i_tup_str, DL.i_tup_list, DL.i_tup_tuple, DL.t_non, DL.t_bl, DL.t_int, DL.t_lst, DL.t_tup, ↓DL.x_lst, ↓DL.x_tup, ↓DL.x_encP0, ↓DL.x_encP1, DL.ixn1_0, DL.ixn1_m1, DL.ixn2_0, DL.ixn2_1, DL.ixn2_m1, DL.ixn3_0, DL.ixn3_1, DL.ixn3_2, DL.ixn3_m1, DL.ixn4_0, DL.ixn4_1, DL.ixn4_2, DL.ixn4_3, DL.ixn4_m1, DL.ixn5_0, DL.ixn5_1, DL.ixn5_2, DL.ixn5_3, DL.ixn5_4, DL.ixn5_m1, DL.ixn6_0, DL.ixn6_1, DL.ixn6_2, DL.ixn6_3, DL.ixn6_4, DL.ixn6_5, DL.ixn6_m1, DL.ixn7_0, DL.ixn7_1, DL.ixn7_2, DL.ixn7_3, DL.ixn7_4, DL.ixn7_5, DL.ixn7_6, DL.ixn7_m1, DL.ixn8_0, DL.ixn8_1, DL.ixn8_2, DL.ixn8_3, DL.ixn8_4, DL.ixn8_5, DL.ixn8_6, DL.ixn8_7, DL.ixn8_m1, ↓DL.x1_0, ↓DL.x1_m1, ↓DL.x2_0, ↓DL.x2_1, ↓DL.x2_m1, ↓DL.x3_0, ↓DL.x3_1, ↓DL.x3_2, ↓DL.x3_m1, ↓DL.x4_0, ↓DL.x4_1, ↓DL.x4_2, ↓DL.x4_3, ↓DL.x4_m1, ↓DL.x5_0, ↓DL.x5_1, ↓DL.x5_2, ↓DL.x5_3, ↓DL.x5_4, ↓DL.x5_m1, ↓DL.x6_0, ↓DL.x6_1, ↓DL.x6_2, ↓DL.x6_3, ↓DL.x6_4, ↓DL.x6_5, ↓DL.x6_m1, ↓DL.x7_0, ↓DL.x7_1, ↓DL.x7_2, ↓DL.x7_3, ↓DL.x7_4, ↓DL.x7_5, ↓DL.x7_6, ↓DL.x7_m1, ↓DL.x8_0, ↓DL.x8_1, ↓DL.x8_2, ↓DL.x8_3, ↓DL.x8_4, ↓DL.x8_5, ↓DL.x8_6, ↓DL.x8_7, ↓DL.x8_m1, DL.c_abs, DL.c_max2, DL.c_min2, DL.c_int, DL.c_intb, DL.c_lenS, DL.c_lenT, DL.c_lenL, DL.c_listT, DL.c_listL, DL.c_tupT, DL.c_tupL, DL.c_sum, DL.c_sum0, DL.c_all, DL.c_any, DL.c_minP, DL.c_maxP, DL.c_sortP, DL.c_zip, DL.c_enum, DL.c_range1, DL.c_range2, DL.g_lst, DL.g_tup, DL.g_str, DL.p_int, DL.sq_lst, DL.sl_lst, DL.sl_tup, DL.sl_str, DL.slL_lst, DL.om_some, List.set_cons_zero, List.set_cons_succ, DL.m_tyL, DL.m_tyS, DL.m_ty, DL.m_app, DL.m_sto, DL.m_fzL, DL.m_fzI, DL.m_fzT, DL.m_fz, DL.x_ref, DL.c_lenR, DL.c_listR, DL.c_tupR, DL.sl_ref, DL.atL_new, DL.atL_new1, DL.atL_new2, DL.atL_old, DL.set_new, DL.set_new1, DL.set_new2, DL.set_old, DL.take_app, DL.app_app, DL.cons_app, DL.nil_app, DL.len_app1, DL.len_app2, DL.len_app3, DL.len_set, DL.seq_new, DL.seq_new1, DL.seq_new2, DL.seq_old, DL.ex_some, DL.fl_non, DL.fl_int, DL.fl_bl, DL.fl_str, DL.fl_tup, DL.fl_lst, DL.fl_obj, DL.fl_nil, DL.fl_cons, DL.fl_app, DL.fl_encP, Bool.and_self, Bool.and_true, Bool.true_and, List.set_set, ↓DL.w_yes, ↓DL.w_fld, ↓DL.w_mt, ↓DL.w_mtL, ↓DL.w_mt0, ↓DL.w_mt0L, ↓DL.w_ic, DL.isO_obj, ↓DL.w_make, ↓DL.w_b2M, ↓DL.w_b2MT, ↓DL.w_uM, ↓DL.w_inv, ↓DL.w_bin_obj, ↓DL.w_bin_int, ↓DL.w_fldS, DL.m_fld, DL.atI_new, DL.putD, ↓DL.w_repL, ↓DL.w_isiC, ↓DL.w_par3, ↓DL.wPar3_3, DL.m_count, DL.wretL_new, DL.wret_new, ↓DL.c_setSort, List.take_length, List.length_cons, List.length_nil, List.length_map, Int.cast_ofNat_Int, Bool.not_true, Bool.not_false, Int.reduceAdd, Int.reduceSub, Int.reduceMul, Int.reduceNeg, Int.reduceEq, Int.reduceLT, Int.reduceLE, Nat.reduceAdd, Nat.reduceSub, eq_self, not_true_eq_false, not_false_eq_true, false_implies, implies_true, true_implies, $ts,*])
open Lean in
local macro_rules | `(tactic| push_cast) => `(tactic| simp only [↓DL.r0, ↓DL.r1, ↓DL.r2, ↓DL.r3, ↓DL.r4, ↓DL.r5, ↓DL.r6, ↓DL.r7, ↓DL.r8, ↓DL.r9, ↓DL.r10, ↓DL.r11, ↓DL.r12, ↓DL.r13, ↓DL.r14, ↓DL.r15, ↓DL.r16, ↓DL.r17, ↓DL.r18, ↓DL.r19, ↓DL.r20, ↓DL.r21, ↓DL.r22, ↓DL.r23, ↓DL.r24, ↓DL.r25, ↓DL.r26, ↓DL.r27, ↓DL.r28, ↓DL.r29, DL.s0, DL.s1, DL.s2, DL.s3, DL.s4, DL.s5, DL.s6, DL.s7, DL.s8, DL.s9, DL.s10, DL.s11, DL.s12, DL.s13, DL.s14, DL.s15, DL.s16, DL.s17, DL.s18, DL.s19, DL.s20, DL.s21, DL.s22, DL.s23, DL.s24, DL.s25, DL.s26, DL.s27, DL.s28, DL.s29, DL.startD_cons, DL.startD_nil, DL.startD_zero, ↓DL.w_ok, ↓DL.w_some, ↓DL.w_somec, ↓DL.w_bind, ↓DL.w_opt, ↓DL.w_chg, ↓DL.w_kon, ↓DL.w_calm, ↓DL.w_b2, ↓DL.w_b2L, ↓DL.w_b1, ↓DL.wB_bl, ↓DL.w_asB, ↓DL.w_b2T, ↓DL.w_chE, ↓DL.w_chT, ↓DL.w_not, ↓DL.w_val, ↓DL.w_notE, ↓DL.w_ifE, ↓DL.w_ifL, ↓DL.w_andM, ↓DL.w_orM, ↓DL.w_andE, ↓DL.w_orE, ↓DL.w_nil, ↓DL.w_cons, ↓DL.w_tup, ↓DL.w_lst, ↓DL.w_frz, ↓DL.w_new, ↓DL.w_cel, ↓DL.w_cb, ↓DL.w_cbL, ↓DL.w_call, ↓DL.w_callL, ↓DL.w_ar0, ↓DL.w_ar1, ↓DL.w_ar2, ↓DL.w_ar3, ↓DL.w_ar4, ↓DL.w_ar5, ↓DL.w_ar6, ↓DL.w_noO, ↓DL.w_smO, ↓DL.w_sl, ↓DL.w_slL, ↓DL.w_rev, ↓DL.w_step, ↓DL.w_isi, ↓DL.w_sets, ↓DL.w_lrg, ↓DL.w_mth, ↓DL.w_mth0, ↓DL.w_itS, ↓DL.w_itR1, ↓DL.w_itR2, ↓DL.w_itR3, ↓DL.w_itZ, ↓DL.w_itN, ↓DL.w_lc, ↓DL.w_nx, ↓DL.w_rt, ↓DL.w_seq, ↓DL.w_set, ↓DL.wPar_2, ↓DL.w_par, ↓DL.w_aug, ↓DL.w_sto, ↓DL.w_exp, ↓DL.w_ret, ↓DL.w_retN, ↓DL.w_nxS, ↓DL.w_ifS, ↓DL.w_for, ↓DL.w_asg, ↓DL.w_stk, ↓DL.w_body, ↓DL.w_bodyL, ↓DL.wret_non, ↓DL.wret_bl, ↓DL.wret_int, ↓DL.wret_str, ↓DL.wif_t, ↓DL.wif_f, ↓DL.wif_d, ↓DL.wif_n, ↓DL.wif_a, ↓DL.wif_o, DL.few0, DL.few1, DL.few2, DL.few3, DL.few4, DL.few5, DL.few6, DL.few7, DL.few8, DL.few9, DL.few10, true_and, and_true, ↓DL.a_nm, ↓DL.a_tp1, ↓DL.a_tp2, ↓DL.a_tp3, ↓DL.a_tp4, ↓DL.a_tp5, ↓DL.a_tpn, ↓DL.a_tpm, ↓DL.a_encP, DL.wipe_nil, DL.wipe_cons, DL.o_add, DL.o_sub, DL.o_neg, ↓DL.o_mul, ↓DL.o_div, ↓DL.o_mod, DL.o_pow, ↓DL.o_p10_3, ↓DL.o_p10_4, ↓DL.o_p10_6, ↓DL.o_p10_8, ↓DL.o_p10_9, ↓DL.o_p10_12, ↓DL.o_p10_15, ↓DL.o_p10_18, ↓DL.o_p10_20, ↓DL.o_p10_25, ↓DL.o_p10_26, ↓DL.o_p10_27, ↓DL.o_p10_28, ↓DL.o_p10_29, ↓DL.o_p10_30, ↓DL.o_p10_31, ↓DL.o_p10_36, ↓DL.o_p10_38, ↓DL.o_p10_40, ↓DL.o_p10_42, ↓DL.o_p10_44, ↓DL.o_p10_46, ↓DL.o_p10_48, ↓DL.o_p10_50, ↓DL.o_p10_60, ↓DL.o_p10_64, ↓DL.o_p10_70, ↓DL.o_p10_90, ↓DL.o_p10_99, ↓DL.o_p10_100, ↓DL.o_addS, ↓DL.o_addT, ↓DL.o_catL, ↓DL.o_addL, DL.o_lt, DL.o_le, DL.o_gt, DL.o_ge, DL.o_eqI, DL.o_neI, DL.o_eqS, DL.o_neS, DL.o_is, DL.o_isn, DL.n_non, DL.n_bl, DL.n_int, DL.n_str, DL.n_lst, DL.n_tup, DL.n_ref, DL.n_obj, DL.i_non_int, DL.i_non_bool, DL.i_non_str, DL.i_non_list, DL.i_non_tuple, DL.i_bl_int, DL.i_bl_bool, DL.i_bl_str, DL.i_bl_list, DL.i_bl_tuple, DL.i_int_int, DL.i_int_bool, DL.i_int_str, DL.i_int_list, DL.i_int_tuple, DL.i_str_int, DL.i_str_bool, DL.i_str_str, DL.i_str_list, DL.i_str_tuple, DL.i_lst_int, DL.i_lst_bool, DL.i_lst_str, DL.i_lst_list, DL.i_lst_tuple, DL.i_tup_int, DL.i_tup_bool, DL.i_tup_str, DL.i_tup_list, DL.i_tup_tuple, DL.t_non, DL.t_bl, DL.t_int, DL.t_lst, DL.t_tup, ↓DL.x_lst, ↓DL.x_tup, ↓DL.x_encP0, ↓DL.x_encP1, DL.ixn1_0, DL.ixn1_m1, DL.ixn2_0, DL.ixn2_1, DL.ixn2_m1, DL.ixn3_0, DL.ixn3_1, DL.ixn3_2, DL.ixn3_m1, DL.ixn4_0, DL.ixn4_1, DL.ixn4_2, DL.ixn4_3, DL.ixn4_m1, DL.ixn5_0, DL.ixn5_1, DL.ixn5_2, DL.ixn5_3, DL.ixn5_4, DL.ixn5_m1, DL.ixn6_0, DL.ixn6_1, DL.ixn6_2, DL.ixn6_3, DL.ixn6_4, DL.ixn6_5, DL.ixn6_m1, DL.ixn7_0, DL.ixn7_1, DL.ixn7_2, DL.ixn7_3, DL.ixn7_4, DL.ixn7_5, DL.ixn7_6, DL.ixn7_m1, DL.ixn8_0, DL.ixn8_1, DL.ixn8_2, DL.ixn8_3, DL.ixn8_4, DL.ixn8_5, DL.ixn8_6, DL.ixn8_7, DL.ixn8_m1, ↓DL.x1_0, ↓DL.x1_m1, ↓DL.x2_0, ↓DL.x2_1, ↓DL.x2_m1, ↓DL.x3_0, ↓DL.x3_1, ↓DL.x3_2, ↓DL.x3_m1, ↓DL.x4_0, ↓DL.x4_1, ↓DL.x4_2, ↓DL.x4_3, ↓DL.x4_m1, ↓DL.x5_0, ↓DL.x5_1, ↓DL.x5_2, ↓DL.x5_3, ↓DL.x5_4, ↓DL.x5_m1, ↓DL.x6_0, ↓DL.x6_1, ↓DL.x6_2, ↓DL.x6_3, ↓DL.x6_4, ↓DL.x6_5, ↓DL.x6_m1, ↓DL.x7_0, ↓DL.x7_1, ↓DL.x7_2, ↓DL.x7_3, ↓DL.x7_4, ↓DL.x7_5, ↓DL.x7_6, ↓DL.x7_m1, ↓DL.x8_0, ↓DL.x8_1, ↓DL.x8_2, ↓DL.x8_3, ↓DL.x8_4, ↓DL.x8_5, ↓DL.x8_6, ↓DL.x8_7, ↓DL.x8_m1, DL.c_abs, DL.c_max2, DL.c_min2, DL.c_int, DL.c_intb, DL.c_lenS, DL.c_lenT, DL.c_lenL, DL.c_listT, DL.c_listL, DL.c_tupT, DL.c_tupL, DL.c_sum, DL.c_sum0, DL.c_all, DL.c_any, DL.c_minP, DL.c_maxP, DL.c_sortP, DL.c_zip, DL.c_enum, DL.c_range1, DL.c_range2, DL.g_lst, DL.g_tup, DL.g_str, DL.p_int, DL.sq_lst, DL.sl_lst, DL.sl_tup, DL.sl_str, DL.slL_lst, DL.om_some, List.set_cons_zero, List.set_cons_succ, DL.m_tyL, DL.m_tyS, DL.m_ty, DL.m_app, DL.m_sto, DL.m_fzL, DL.m_fzI, DL.m_fzT, DL.m_fz, DL.x_ref, DL.c_lenR, DL.c_listR, DL.c_tupR, DL.sl_ref, DL.atL_new, DL.atL_new1, DL.atL_new2, DL.atL_old, DL.set_new, DL.set_new1, DL.set_new2, DL.set_old, DL.take_app, DL.app_app, DL.cons_app, DL.nil_app, DL.len_app1, DL.len_app2, DL.len_app3, DL.len_set, DL.seq_new, DL.seq_new1, DL.seq_new2, DL.seq_old, DL.ex_some, DL.fl_non, DL.fl_int, DL.fl_bl, DL.fl_str, DL.fl_tup, DL.fl_lst, DL.fl_obj, DL.fl_nil, DL.fl_cons, DL.fl_app, DL.fl_encP, Bool.and_self, Bool.and_true, Bool.true_and, List.set_set, ↓DL.w_yes, ↓DL.w_fld, ↓DL.w_mt, ↓DL.w_mtL, ↓DL.w_mt0, ↓DL.w_mt0L, ↓DL.w_ic, DL.isO_obj, ↓DL.w_make, ↓DL.w_b2M, ↓DL.w_b2MT, ↓DL.w_uM, ↓DL.w_inv, ↓DL.w_bin_obj, ↓DL.w_bin_int, ↓DL.w_fldS, DL.m_fld, DL.atI_new, DL.putD, ↓DL.w_repL, ↓DL.w_isiC, ↓DL.w_par3, ↓DL.wPar3_3, DL.m_count, DL.wretL_new, DL.wret_new, ↓DL.c_setSort, List.take_length, List.length_cons, List.length_nil, List.length_map, Int.cast_ofNat_Int, Bool.not_true, Bool.not_false, Int.reduceAdd, Int.reduceSub, Int.reduceMul, Int.reduceNeg, Int.reduceEq, Int.reduceLT, Int.reduceLE, Nat.reduceAdd, Nat.reduceSub, eq_self, not_true_eq_false, not_false_eq_true, false_implies, implies_true, true_implies])
/-! k15: both together -/
section
variable {S R : Cells} {E : Xc → Cells → Prop} {Q : D → Cells → Prop} {QL : List D → Cells → Prop}
theorem gd_pieces {R : List MP.T} (h : ∀ p ∈ R, 0 ≤ p.1 ∧ p.1 < 10 ^ 90 ∧ 0 ≤ p.2.1 ∧ p.2.1 < 10 ^ 90 ∧ 0 ≤ p.2.2 ∧ p.2.2 < 10 ^ 90) : Gd 2 (.lst (R.map encT)) :=
  .lst (Gd.map fun p hp => .tup fun d hd => by
    obtain ⟨a1, a2, a3, a4, a5, a6⟩ := h p hp
    simp only [List.mem_cons, List.not_mem_nil, or_false] at hd
    rcases hd with e | e | e <;> subst e
    · exact .int (logOk_of (lt_pow (b := 300) a1 a2 (by decide)))
    · exact .int (logOk_of (lt_pow (b := 300) a3 a4 (by decide)))
    · exact .int (logOk_of (lt_pow (b := 300) a5 a6 (by decide))))
theorem vw_ref {m : Nat} {b : Bool} {l : List D} (h : S[m]? = some ⟨b, .lst l⟩) (hf : flatL l = true) : vw S (.ref m) = vw S (.lst l) := by
  unfold vw
  rw [resv_flat _ _ (.lst l) (by rw [flat_lst]; exact hf)]
  unfold resv
  rw [if_neg (by omega), h]
theorem dNe_nil {l : List D} (hg : Gd 2 (.lst l)) : dNe (.lst l) (.lst []) S = some (.bl (!l.isEmpty)) := by
  cases l with
  | nil => exact dNe_same hg (by decide)
  | cons d l =>
    obtain ⟨p, e, g⟩ := gd_vw (S := S) hg
    have e' : vw S (.lst []) = some (.list []) := rfl
    have k := eqP_of e e' (g.shaped (by decide)) (by decide +kernel)
    show (eqP (.lst (d :: l)) (.lst []) S).map (fun b => D.bl (!b)) = _
    rw [k]
    have e2 : vw S (.lst (d :: l)) = (match (match toPy d, toPyL l with
      | some v, some vs => some (v :: vs)
      | _, _ => none) with
      | some m => some (PyData.list m)
      | none => none) := by
      unfold vw
      rw [resv_flat _ _ _ (gd_flat hg)]
      rfl
    rw [e2] at e
    cases h1 : toPy d with
    | none => rw [h1] at e; cases e
    | some v =>
      cases h2 : toPyL l with
      | none => rw [h1, h2] at e; cases e
      | some vs =>
        rw [h1, h2] at e
        cases e
        rfl
theorem dNe_ref {m : Nat} {b : Bool} {l : List D} (h : S[m]? = some ⟨b, .lst l⟩) (hg : Gd 2 (.lst l)) : dNe (.ref m) (.lst []) S = some (.bl (!l.isEmpty)) := by
  rw [← dNe_nil (S := S) hg]
  show (eqP (.ref m) (.lst []) S).map (fun b => D.bl (!b)) = (eqP (.lst l) (.lst []) S).map (fun b => D.bl (!b))
  unfold eqP
  rw [vw_ref h (by have := gd_flat hg; rwa [flat_lst] at this)]
theorem sum_le {l : List MP.T} {t : Int} (h : ∀ p ∈ l, p.2.2 ≤ t) : (l.map (·.2.2)).sum ≤ l.length * t := by
  induction l with
  | nil => simp
  | cons p l ih =>
    have := ih fun q hq => h q (List.mem_cons_of_mem _ hq)
    have := h p List.mem_cons_self
    rw [List.map_cons, List.sum_cons, List.length_cons, Int.natCast_add, Int.add_mul]
    omega
end

end K15
end
section
set_option maxHeartbeats 4000000
set_option exponentiation.threshold 3000
namespace K15
open PySem PySem.Spec L2 DL
open PyProof.Rows hiding St
open Lean in
local macro_rules | `(tactic| push_cast [$ts,*]) => `(tactic| simp only [↓DL.r0, ↓DL.r1, ↓DL.r2, ↓DL.r3, ↓DL.r4, ↓DL.r5, ↓DL.r6, ↓DL.r7, ↓DL.r8, ↓DL.r9, ↓DL.r10, ↓DL.r11, ↓DL.r12, ↓DL.r13, ↓DL.r14, ↓DL.r15, ↓DL.r16, ↓DL.r17, ↓DL.r18, ↓DL.r19, ↓DL.r20, ↓DL.r21, ↓DL.r22, ↓DL.r23, ↓DL.r24, ↓DL.r25, ↓DL.r26, ↓DL.r27, ↓DL.r28, ↓DL.r29, DL.s0, DL.s1, DL.s2, DL.s3, DL.s4, DL.s5, DL.s6, DL.s7, DL.s8, DL.s9, DL.s10, DL.s11, DL.s12, DL.s13, DL.s14, DL.s15, DL.s16, DL.s17, DL.s18, DL.s19, DL.s20, DL.s21, DL.s22, DL.s23, DL.s24, DL.s25, DL.s26, DL.s27, DL.s28, DL.s29, DL.startD_cons, DL.startD_nil, DL.startD_zero, ↓DL.w_ok, ↓DL.w_some, ↓DL.w_somec, ↓DL.w_bind, ↓DL.w_opt, ↓DL.w_chg, ↓DL.w_kon, ↓DL.w_calm, ↓DL.w_b2, ↓DL.w_b2L, ↓DL.w_b1, ↓DL.wB_bl, ↓DL.w_asB, ↓DL.w_b2T, ↓DL.w_chE, ↓DL.w_chT, ↓DL.w_not, ↓DL.w_val, ↓DL.w_notE, ↓DL.w_ifE, ↓DL.w_ifL, ↓DL.w_andM, ↓DL.w_orM, ↓DL.w_andE, ↓DL.w_orE, ↓DL.w_nil, ↓DL.w_cons, ↓DL.w_tup, ↓DL.w_lst, ↓DL.w_frz, ↓DL.w_new, ↓DL.w_cel, ↓DL.w_cb, ↓DL.w_cbL, ↓DL.w_call, ↓DL.w_callL, ↓DL.w_ar0, ↓DL.w_ar1, ↓DL.w_ar2, ↓DL.w_ar3, ↓DL.w_ar4, ↓DL.w_ar5, ↓DL.w_ar6, ↓DL.w_noO, ↓DL.w_smO, ↓DL.w_sl, ↓DL.w_slL, ↓DL.w_rev, ↓DL.w_step, ↓DL.w_isi, ↓DL.w_sets, ↓DL.w_lrg, ↓DL.w_mth, ↓DL.w_mth0, ↓DL.w_itS, ↓DL.w_itR1, ↓DL.w_itR2, ↓DL.w_itR3, ↓DL.w_itZ, ↓DL.w_itN, ↓DL.w_lc, ↓DL.w_nx, ↓DL.w_rt, ↓DL.w_seq, ↓DL.w_set, ↓DL.wPar_2, ↓DL.w_par, ↓DL.w_aug, ↓DL.w_sto, ↓DL.w_exp, ↓DL.w_ret, ↓DL.w_retN, ↓DL.w_nxS, ↓DL.w_ifS, ↓DL.w_for, ↓DL.w_asg, ↓DL.w_stk, ↓DL.w_body, ↓DL.w_bodyL, ↓DL.wret_non, ↓DL.wret_bl, ↓DL.wret_int, ↓DL.wret_str, ↓DL.wif_t, ↓DL.wif_f, ↓DL.wif_d, ↓DL.wif_n, ↓DL.wif_a, ↓DL.wif_o, DL.few0, DL.few1, DL.few2, DL.few3, DL.few4, DL.few5, DL.few6, DL.few7, DL.few8, DL.few9, DL.few10, true_and, and_true, ↓DL.a_nm, ↓DL.a_tp1, ↓DL.a_tp2, ↓DL.a_tp3, ↓DL.a_tp4, ↓DL.a_tp5, ↓DL.a_tpn, ↓DL.a_tpm, ↓DL.a_encP, DL.wipe_nil, DL.wipe_cons, DL.o_add, DL.o_sub, DL.o_neg, ↓DL.o_mul, ↓DL.o_div, ↓DL.o_mod, DL.o_pow, ↓DL.o_p10_3, ↓DL.o_p10_4, ↓DL.o_p10_6, ↓DL.o_p10_8, ↓DL.o_p10_9, ↓DL.o_p10_12, ↓DL.o_p10_15, ↓DL.o_p10_18, ↓DL.o_p10_20, ↓DL.o_p10_25, ↓DL.o_p10_26, ↓DL.o_p10_27, ↓DL.o_p10_28, ↓DL.o_p10_29, ↓DL.o_p10_30, ↓DL.o_p10_31, ↓DL.o_p10_36, ↓DL.o_p10_38, ↓DL.o_p10_40, ↓DL.o_p10_42, ↓DL.o_p10_44, ↓DL.o_p10_46, ↓DL.o_p10_48, ↓DL.o_p10_50, ↓DL.o_p10_60, ↓DL.o_p10_64, ↓DL.o_p10_70, ↓DL.o_p10_90, ↓DL.o_p10_99, ↓DL.o_p10_100, ↓DL.o_addS, ↓DL.o_addT, ↓DL.o_catL, ↓DL.o_addL, DL.o_lt, DL.o_le, DL.o_gt, DL.o_ge, DL.o_eqI, DL.o_neI, DL.o_eqS, DL.o_neS, DL.o_is, DL.o_isn, DL.n_non, DL.n_bl, DL.n_int, DL.n_str, DL.n_lst, DL.n_tup, DL.n_ref, DL.n_obj, DL.i_non_int, DL.i_non_bool, DL.i_non_str, DL.i_non_list, DL.i_non_tuple, DL.i_bl_int, DL.i_bl_bool, DL.i_bl_str, DL.i_bl_list, DL.i_bl_tuple, DL.i_int_int, DL.i_int_bool, DL.i_int_str, DL.i_int_list, DL.i_int_tuple, DL.i_str_int, DL.i_str_bool, DL.i_str_str, DL.i_str_list, DL.i_str_tuple, DL.i_lst_int, DL.i_lst_bool, DL.i_lst_str, DL.i_lst_list, DL.i_lst_tuple, DL.i_tup_int, DL.i_tup_bool, DL.i_tup_str, DL.i_tup_list, DL.i_tup_tuple, DL.t_non, DL.t_bl, DL.t_int, DL.t_lst, DL.t_tup, ↓DL.x_lst, ↓DL.x_tup, ↓DL.x_encP0, ↓DL.x_encP1, DL.ixn1_0, DL.ixn1_m1, DL.ixn2_0, DL.ixn2_1, DL.ixn2_m1, DL.ixn3_0, DL.ixn3_1, DL.ixn3_2, DL.ixn3_m1, DL.ixn4_0, DL.ixn4_1, DL.ixn4_2, DL.ixn4_3, DL.ixn4_m1, DL.ixn5_0, DL.ixn5_1, DL.ixn5_2, DL.ixn5_3, DL.ixn5_4, DL.ixn5_m1, DL.ixn6_0, DL.ixn6_1, DL.ixn6_2, DL.ixn6_3, DL.ixn6_4, DL.ixn6_5, DL.ixn6_m1, DL.ixn7_0, DL.ixn7_1, DL.ixn7_2, DL.ixn7_3, DL.ixn7_4, DL.ixn7_5, DL.ixn7_6, DL.ixn7_m1, DL.ixn8_0, DL.ixn8_1, DL.ixn8_2, DL.ixn8_3, DL.ixn8_4, DL.ixn8_5, DL.ixn8_6, DL.ixn8_7, DL.ixn8_m1, ↓DL.x1_0, ↓DL.x1_m1, ↓DL.x2_0, ↓DL.x2_1, ↓DL.x2_m1, ↓DL.x3_0, ↓DL.x3_1, ↓DL.x3_2, ↓DL.x3_m1, ↓DL.x4_0, ↓DL.x4_1, ↓DL.x4_2, ↓DL.x4_3, ↓DL.x4_m1, ↓DL.x5_0, ↓DL.x5_1, ↓DL.x5_2, ↓DL.x5_3, ↓DL.x5_4, ↓DL.x5_m1, ↓DL.x6_0, ↓DL.x6_1, ↓DL.x6_2, ↓DL.x6_3, ↓DL.x6_4, ↓DL.x6_5, ↓DL.x6_m1, ↓DL.x7_0, ↓DL.x7_1, ↓DL.x7_2, ↓DL.x7_3, ↓DL.x7_4, ↓DL.x7_5, ↓DL.x7_6, ↓DL.x7_m1, ↓DL.x8_0, ↓DL.x8_1, ↓DL.x8_2, ↓DL.x8_3, ↓DL.x8_4, ↓DL.x8_5, ↓DL.x8_6, ↓DL.x8_7, ↓DL.x8_m1, DL.c_abs, DL.c_max2, DL.c_min2, DL.c_int, DL.c_intb, DL.c_lenS, DL.c_lenT, DL.c_lenL, DL.c_listT, DL.c_listL, DL.c_tupT, DL.c_tupL, DL.c_sum, DL.c_sum0, DL.c_all, DL.c_any, DL.c_minP, DL.c_maxP, DL.c_sortP, DL.c_zip, DL.c_enum, DL.c_range1, DL.c_range2, DL.g_lst, DL.g_tup, DL.g_str, DL.p_int, DL.sq_lst, DL.sl_lst, DL.sl_tup, DL.sl_str, DL.slL_lst, DL.om_some, List.set_cons_zero, List.set_cons_succ, DL.m_tyL, DL.m_tyS, DL.m_ty, DL.m_app, DL.m_sto, DL.m_fzL, DL.m_fzI, DL.m_fzT, DL.m_fz, DL.x_ref, DL.c_lenR, DL.c_listR, DL.c_tupR, DL.sl_ref, DL.atL_new, DL.atL_new1, DL.atL_new2, DL.atL_old, DL.set_new, DL.set_new1, DL.set_new2, DL.set_old, DL.take_app, DL.app_app, DL.cons_app, DL.nil_app, DL.len_app1, DL.len_app2, DL.len_app3, DL.len_set, DL.seq_new, DL.seq_new1, DL.seq_new2, DL.seq_old, DL.ex_some, DL.fl_non, DL.fl_int, DL.fl_bl, DL.fl_str, DL.fl_tup, DL.fl_lst, DL.fl_obj, DL.fl_nil, DL.fl_cons, DL.fl_app, DL.fl_encP, Bool.and_self, Bool.and_true, Bool.true_and, List.set_set, ↓DL.w_yes, ↓DL.w_fld, ↓DL.w_mt, ↓DL.w_mtL, ↓DL.w_mt0, ↓DL.w_mt0L, ↓DL.w_ic, DL.isO_obj, ↓DL.w_make, ↓DL.w_b2M, ↓DL.w_b2MT, ↓DL.w_uM, ↓DL.w_inv, ↓DL.w_bin_obj, ↓DL.w_bin_int, ↓DL.w_fldS, DL.m_fld, DL.atI_new, DL.putD, ↓DL.w_repL, ↓DL.w_isiC, ↓DL.w_par3, ↓DL.wPar3_3, DL.m_count, DL.wretL_new, DL.wret_new, ↓DL.c_setSort, List.take_length, List.length_cons, List.length_nil, List.length_map, Int.cast_ofNat_Int, Bool.not_true, Bool.not_false, Int.reduceAdd, Int.reduceSub, Int.reduceMul, Int.reduceNeg, Int.reduceEq, Int.reduceLT, Int.reduceLE, Nat.reduceAdd, Nat.reduceSub, eq_self, not_true_eq_false, not_false_eq_true, false_implies, implies_true, true_implies, $ts,*])
open Lean in
local macro_rules | `(tactic| push_cast) => `(tactic| simp only [↓DL.r0, ↓DL.r1, ↓DL.r2, ↓DL.r3, ↓DL.r4, ↓DL.r5, ↓DL.r6, ↓DL.r7, ↓DL.r8, ↓DL.r9, ↓DL.r10, ↓DL.r11, ↓DL.r12, ↓DL.r13, ↓DL.r14, ↓DL.r15, ↓DL.r16, ↓DL.r17, ↓DL.r18, ↓DL.r19, ↓DL.r20, ↓DL.r21, ↓DL.r22, ↓DL.r23, ↓DL.r24, ↓DL.r25, ↓DL.r26, ↓DL.r27, ↓DL.r28, ↓DL.r29, DL.s0, DL.s1, DL.s2, DL.s3, DL.s4, DL.s5, DL.s6, DL.s7, DL.s8, DL.s9, DL.s10, DL.s11, DL.s12, DL.s13, DL.s14, DL.s15, DL.s16, DL.s17, DL.s18, DL.s19, DL.s20, DL.s21, DL.s22, DL.s23, DL.s24, DL.s25, DL.s26, DL.s27, DL.s28, DL.s29, DL.startD_cons, DL.startD_nil, DL.startD_zero, ↓DL.w_ok, ↓DL.w_some, ↓DL.w_somec, ↓DL.w_bind, ↓DL.w_opt, ↓DL.w_chg, ↓DL.w_kon, ↓DL.w_calm, ↓DL.w_b2, ↓DL.w_b2L, ↓DL.w_b1, ↓DL.wB_bl, ↓DL.w_asB, ↓DL.w_b2T, ↓DL.w_chE, ↓DL.w_chT, ↓DL.w_not, ↓DL.w_val, ↓DL.w_notE, ↓DL.w_ifE, ↓DL.w_ifL, ↓DL.w_andM, ↓DL.w_orM, ↓DL.w_andE, ↓DL.w_orE, ↓DL.w_nil, ↓DL.w_cons, ↓DL.w_tup, ↓DL.w_lst, ↓DL.w_frz, ↓DL.w_new, ↓DL.w_cel, ↓DL.w_cb, ↓DL.w_cbL, ↓DL.w_call, ↓DL.w_callL, ↓DL.w_ar0, ↓DL.w_ar1, ↓DL.w_ar2, ↓DL.w_ar3, ↓DL.w_ar4, ↓DL.w_ar5, ↓DL.w_ar6, ↓DL.w_noO, ↓DL.w_smO, ↓DL.w_sl, ↓DL.w_slL, ↓DL.w_rev, ↓DL.w_step, ↓DL.w_isi, ↓DL.w_sets, ↓DL.w_lrg, ↓DL.w_mth, ↓DL.w_mth0, ↓DL.w_itS, ↓DL.w_itR1, ↓DL.w_itR2, ↓DL.w_itR3, ↓DL.w_itZ, ↓DL.w_itN, ↓DL.w_lc, ↓DL.w_nx, ↓DL.w_rt, ↓DL.w_seq, ↓DL.w_set, ↓DL.wPar_2, ↓DL.w_par, ↓DL.w_aug, ↓DL.w_sto, ↓DL.w_exp, ↓DL.w_ret, ↓DL.w_retN, ↓DL.w_nxS, ↓DL.w_ifS, ↓DL.w_for, ↓DL.w_asg, ↓DL.w_stk, ↓DL.w_body, ↓DL.w_bodyL, ↓DL.wret_non, ↓DL.wret_bl, ↓DL.wret_int, ↓DL.wret_str, ↓DL.wif_t, ↓DL.wif_f, ↓DL.wif_d, ↓DL.wif_n, ↓DL.wif_a, ↓DL.wif_o, DL.few0, DL.few1, DL.few2, DL.few3, DL.few4, DL.few5, DL.few6, DL.few7, DL.few8, DL.few9, DL.few10, true_and, and_true, ↓DL.a_nm, ↓DL.a_tp1, ↓DL.a_tp2, ↓DL.a_tp3, ↓DL.a_tp4, ↓DL.a_tp5, ↓DL.a_tpn, ↓DL.a_tpm, ↓DL.a_encP, DL.wipe_nil, DL.wipe_cons, DL.o_add, DL.o_sub, DL.o_neg, ↓DL.o_mul, ↓DL.o_div, ↓DL.o_mod, DL.o_pow, ↓DL.o_p10_3, ↓DL.o_p10_4, ↓DL.o_p10_6, ↓DL.o_p10_8, ↓DL.o_p10_9, ↓DL.o_p10_12, ↓DL.o_p10_15, ↓DL.o_p10_18, ↓DL.o_p10_20, ↓DL.o_p10_25, ↓DL.o_p10_26, ↓DL.o_p10_27, ↓DL.o_p10_28, ↓DL.o_p10_29, ↓DL.o_p10_30, ↓DL.o_p10_31, ↓DL.o_p10_36, ↓DL.o_p10_38, ↓DL.o_p10_40, ↓DL.o_p10_42, ↓DL.o_p10_44, ↓DL.o_p10_46, ↓DL.o_p10_48, ↓DL.o_p10_50, ↓DL.o_p10_60, ↓DL.o_p10_64, ↓DL.o_p10_70, ↓DL.o_p10_90, ↓DL.o_p10_99, ↓DL.o_p10_100, ↓DL.o_addS, ↓DL.o_addT, ↓DL.o_catL, ↓DL.o_addL, DL.o_lt, DL.o_le, DL.o_gt, DL.o_ge, DL.o_eqI, DL.o_neI, DL.o_eqS, DL.o_neS, DL.o_is, DL.o_isn, DL.n_non, DL.n_bl, DL.n_int, DL.n_str, DL.n_lst, DL.n_tup, DL.n_ref, DL.n_obj, DL.i_non_int, DL.i_non_bool, DL.i_non_str, DL.i_non_list, DL.i_non_tuple, DL.i_bl_int, DL.i_bl_bool, DL.i_bl_str, DL.i_bl_list, DL.i_bl_tuple, DL.i_int_int, DL.i_int_bool, DL.i_int_str, DL.i_int_list, DL.i_int_tuple, DL.i_str_int, DL.i_str_bool, DL.i_str_str, DL.i_str_list, DL.i_str_tuple, DL.i_lst_int, DL.i_lst_bool, DL.i_lst_str, DL.i_lst_list, DL.i_lst_tuple, DL.i_tup_int, DL.i_tup_bool, DL.i_tup_str, DL.i_tup_list, DL.i_tup_tuple, DL.t_non, DL.t_bl, DL.t_int, DL.t_lst, DL.t_tup, ↓DL.x_lst, ↓DL.x_tup, ↓DL.x_encP0, ↓DL.x_encP1, DL.ixn1_0, DL.ixn1_m1, DL.ixn2_0, DL.ixn2_1, DL.ixn2_m1, DL.ixn3_0, DL.ixn3_1, DL.ixn3_2, DL.ixn3_m1, DL.ixn4_0, DL.ixn4_1, DL.ixn4_2, DL.ixn4_3, DL.ixn4_m1, DL.ixn5_0, DL.ixn5_1, DL.ixn5_2, DL.ixn5_3, DL.ixn5_4, DL.ixn5_m1, DL.ixn6_0, DL.ixn6_1, DL.ixn6_2, DL.ixn6_3, DL.ixn6_4, DL.ixn6_5, DL.ixn6_m1, DL.ixn7_0, DL.ixn7_1, DL.ixn7_2, DL.ixn7_3, DL.ixn7_4, DL.ixn7_5, DL.ixn7_6, DL.ixn7_m1, DL.ixn8_0, DL.ixn8_1, DL.ixn8_2, DL.ixn8_3, DL.ixn8_4, DL.ixn8_5, DL.ixn8_6, DL.ixn8_7, DL.ixn8_m1, ↓DL.x1_0, ↓DL.x1_m1, ↓DL.x2_0, ↓DL.x2_1, ↓DL.x2_m1, ↓DL.x3_0, ↓DL.x3_1, ↓DL.x3_2, ↓DL.x3_m1, ↓DL.x4_0, ↓DL.x4_1, ↓DL.x4_2, ↓DL.x4_3, ↓DL.x4_m1, ↓DL.x5_0, ↓DL.x5_1, ↓DL.x5_2, ↓DL.x5_3, ↓DL.x5_4, ↓DL.x5_m1, ↓DL.x6_0, ↓DL.x6_1, ↓DL.x6_2, ↓DL.x6_3, ↓DL.x6_4, ↓DL.x6_5, ↓DL.x6_m1, ↓DL.x7_0, ↓DL.x7_1, ↓DL.x7_2, ↓DL.x7_3, ↓DL.x7_4, ↓DL.x7_5, ↓DL.x7_6, ↓DL.x7_m1, ↓DL.x8_0, ↓DL.x8_1, ↓DL.x8_2, ↓DL.x8_3, ↓DL.x8_4, ↓DL.x8_5, ↓DL.x8_6, ↓DL.x8_7, ↓DL.x8_m1, DL.c_abs, DL.c_max2, DL.c_min2, DL.c_int, DL.c_intb, DL.c_lenS, DL.c_lenT, DL.c_lenL, DL.c_listT, DL.c_listL, DL.c_tupT, DL.c_tupL, DL.c_sum, DL.c_sum0, DL.c_all, DL.c_any, DL.c_minP, DL.c_maxP, DL.c_sortP, DL.c_zip, DL.c_enum, DL.c_range1, DL.c_range2, DL.g_lst, DL.g_tup, DL.g_str, DL.p_int, DL.sq_lst, DL.sl_lst, DL.sl_tup, DL.sl_str, DL.slL_lst, DL.om_some, List.set_cons_zero, List.set_cons_succ, DL.m_tyL, DL.m_tyS, DL.m_ty, DL.m_app, DL.m_sto, DL.m_fzL, DL.m_fzI, DL.m_fzT, DL.m_fz, DL.x_ref, DL.c_lenR, DL.c_listR, DL.c_tupR, DL.sl_ref, DL.atL_new, DL.atL_new1, DL.atL_new2, DL.atL_old, DL.set_new, DL.set_new1, DL.set_new2, DL.set_old, DL.take_app, DL.app_app, DL.cons_app, DL.nil_app, DL.len_app1, DL.len_app2, DL.len_app3, DL.len_set, DL.seq_new, DL.seq_new1, DL.seq_new2, DL.seq_old, DL.ex_some, DL.fl_non, DL.fl_int, DL.fl_bl, DL.fl_str, DL.fl_tup, DL.fl_lst, DL.fl_obj, DL.fl_nil, DL.fl_cons, DL.fl_app, DL.fl_encP, Bool.and_self, Bool.and_true, Bool.true_and, List.set_set, ↓DL.w_yes, ↓DL.w_fld, ↓DL.w_mt, ↓DL.w_mtL, ↓DL.w_mt0, ↓DL.w_mt0L, ↓DL.w_ic, DL.isO_obj, ↓DL.w_make, ↓DL.w_b2M, ↓DL.w_b2MT, ↓DL.w_uM, ↓DL.w_inv, ↓DL.w_bin_obj, ↓DL.w_bin_int, ↓DL.w_fldS, DL.m_fld, DL.atI_new, DL.putD, ↓DL.w_repL, ↓DL.w_isiC, ↓DL.w_par3, ↓DL.wPar3_3, DL.m_count, DL.wretL_new, DL.wret_new, ↓DL.c_setSort, List.take_length, List.length_cons, List.length_nil, List.length_map, Int.cast_ofNat_Int, Bool.not_true, Bool.not_false, Int.reduceAdd, Int.reduceSub, Int.reduceMul, Int.reduceNeg, Int.reduceEq, Int.reduceLT, Int.reduceLE, Nat.reduceAdd, Nat.reduceSub, eq_self, not_true_eq_false, not_false_eq_true, false_implies, implies_true, true_implies])
/-! k15: the sweep -/
section
variable {S R : Cells} {E : Xc → Cells → Prop} {Q : D → Cells → Prop} {QL : List D → Cells → Prop}
theorem ixn_last (n : Nat) : ixN (n + 1) (-1) = some n := by
  unfold ixN
  simp
  omega
theorem at_last {R : List MP.T} {p : MP.T} : wAt ((R ++ [p]).map encT) (-1) S Q = Q (encT p) S := wAt_some (by
  unfold atI
  rw [show ((R ++ [p]).map encT).length = R.length + 1 by simp, ixn_last]
  show ((R ++ [p]).map encT)[R.length]? = _
  simp)
theorem set_last {R : List MP.T} {p : MP.T} {d : D} : ((R ++ [p]).map encT).set R.length d = R.map encT ++ [d] := by simp
theorem both_ok {F G : List MP.T} (hF : ∀ p ∈ F ++ G, 1 ≤ p.1 ∧ p.1 ≤ p.2.1 ∧ 0 ≤ p.2.2) (hz : F.length + G.length ≤ 800) (hb : ∀ p ∈ F ++ G, p.2.1 < 10 ^ 80 ∧ p.2.2 < 10 ^ 80) : g__law_both [.lst (F.map encT), .lst (G.map encT)] S = .ok (.lst ((MP.fin (F ++ G)).map encT)) S := by
  have zz := z24
  have hlen : (F ++ G).length = F.length + G.length := List.length_append
  have hf : ∀ d, 0 ≤ MP.cnt (F ++ G) d ∧ MP.cnt (F ++ G) d < 10 ^ 90 := fun d => by
    have h1 := MP.cnt_nn (fun p hp => (hF p hp).2.2) d
    have h2 := MP.cnt_le (fun p hp => (hF p hp).2.2) d
    have h3 := sum_le (t := 10 ^ 80) fun p hp => Int.le_of_lt (hb p hp).2
    have h4 : ((F ++ G).length : Int) * 10 ^ 80 ≤ 800 * 10 ^ 80 := Int.mul_le_mul_of_nonneg_right (by omega) (by decide)
    omega
  have hbg : ∀ x ∈ MP.bgs (F ++ G), x < 10 ^ 81 := fun x hx => by
    obtain ⟨p, hp, h⟩ := MP.mem_bgs.mp hx
    have := hb p hp
    have := hF p hp
    omega
  refine wp_ok ?_
  push_cast [g__law_both, B__law_both, ← List.map_append]
  refine ⟨by omega, ?_⟩
  refine comp_map_wp encT (fun p => .int p.1) (F ++ G) (fun p hp => ?_) ?_
  · unfold cStep
    push_cast [encT]
  push_cast [← List.map_append]
  refine ⟨by omega, ?_⟩
  refine comp_map_wp encT (fun p => .int (p.2.1 + 1)) (F ++ G) (fun p hp => ?_) ?_
  · unfold cStep
    push_cast [encT]
  push_cast
  refine ⟨by omega, ?_⟩
  rw [show ((F ++ G).map fun p : MP.T => D.int p.1) ++ (F ++ G).map (fun p : MP.T => D.int (p.2.1 + 1)) = ((F ++ G).map (fun p : MP.T => p.1) ++ (F ++ G).map fun p : MP.T => p.2.1 + 1).map .int by rw [List.map_append (f := D.int), List.map_map, List.map_map]; rfl]
  push_cast [cut_1]
  refine ⟨by rw [List.length_append, List.length_map, List.length_map]; omega, ?_⟩
  rw [show setSort ((F ++ G).map (fun p : MP.T => p.1) ++ (F ++ G).map fun p : MP.T => p.2.1 + 1) = MP.bgs (F ++ G) from rfl, ← List.map_drop, pairsD_map]
  have hbl : (MP.bgs (F ++ G)).length ≤ 1600 := Nat.le_trans (setSort_len _) (by rw [List.length_append, List.length_map, List.length_map]; omega)
  refine for_wp (fun q : Int × Int => D.tup [.int q.1, .int q.2])
    (fun r ρ S2 => ∃ A C Rr x4 x5 x6, MP.bgs (F ++ G) = A ++ C ∧ r = C.zip (C.drop 1) ∧ (∀ b C', C = b :: C' → 1 ≤ b ∧ MP.Inv (MP.cnt (F ++ G)) Rr b) ∧ (C = [] → Rr = [] ∧ A = []) ∧ Rr.length ≤ A.length ∧ ρ = [some (.lst (F.map encT)), some (.lst (G.map encT)), some (.lst ((MP.bgs (F ++ G)).map .int)), some (.ref S.length), x4, x5, x6, none] ∧ S2 = S ++ [⟨true, .lst (Rr.map encT)⟩])
    ?_ ?_ _ _ _ ⟨[], MP.bgs (F ++ G), [], _, _, _, rfl, rfl, fun b C e => MP.bgs_start (fun p hp => ⟨(hF p hp).1, (hF p hp).2.1⟩) e, fun _ => ⟨rfl, rfl⟩, Nat.le_refl _, rfl, rfl⟩
  · rintro q r ρ S2 ⟨A, C, Rr, x4, x5, x6, e1, e2, e3, e4, e5, rfl, rfl⟩
    match C, e1, e2, e3 with
    | [], _, e2, _ => cases e2
    | [_], _, e2, _ => cases e2
    | lo :: hi :: C', e1, e2, e3 =>
      have e2 : q :: r = (lo, hi) :: (hi :: C').zip ((hi :: C').drop 1) := e2
      cases e2
      obtain ⟨h1, hI⟩ := e3 lo _ rfl
      obtain ⟨hlt, hc⟩ := MP.bgs_const (fun p hp => (hF p hp).1) e1 h1
      have hA : A.length + 2 ≤ 1600 := by rw [e1] at hbl; simp only [List.length_append, List.length_cons] at hbl; omega
      have hhi : hi < 10 ^ 81 := hbg hi (by rw [e1]; simp)
      have fin : ∀ R2 x4 x5 x6, MP.Inv (MP.cnt (F ++ G)) R2 hi → R2.length ≤ A.length + 1 → ∃ A' C2 Rr x4' x5' x6', MP.bgs (F ++ G) = A' ++ C2 ∧ (hi :: C').zip ((hi :: C').drop 1) = C2.zip (C2.drop 1) ∧ (∀ b C', C2 = b :: C' → 1 ≤ b ∧ MP.Inv (MP.cnt (F ++ G)) Rr b) ∧ (C2 = [] → Rr = [] ∧ A' = []) ∧ Rr.length ≤ A'.length ∧ [some (D.lst (F.map encT)), some (.lst (G.map encT)), some (.lst ((MP.bgs (F ++ G)).map .int)), some (.ref S.length), x4, x5, x6, none] = [some (D.lst (F.map encT)), some (.lst (G.map encT)), some (.lst ((MP.bgs (F ++ G)).map .int)), some (.ref S.length), x4', x5', x6', none] ∧ S ++ [⟨true, .lst (R2.map encT)⟩] = S ++ [⟨true, .lst (Rr.map encT)⟩] := fun R2 x4 x5 x6 hI hl =>
        ⟨A ++ [lo], hi :: C', R2, x4, x5, x6, by rw [e1]; simp, rfl, fun b C'' e => by cases e; exact ⟨by omega, hI⟩, (fun z => nomatch z), by simpa using hl, rfl, rfl⟩
      have hlen2 : Rr.length < sizeLine := by omega
      have hcell : (S ++ [⟨true, .lst (Rr.map encT)⟩] : Cells)[S.length]? = some ⟨true, .lst (Rr.map encT)⟩ := by simp
      have hgd : Gd 2 (.lst (Rr.map encT)) := gd_pieces fun p hp => by
        have h2 := hI.can.asc.mem p hp
        have h3 := hI.end_ p hp
        have h4 := MP.asc_cnt hI.can.asc hp (d := p.1) (MP.inT_iff.mpr ⟨Int.le_refl _, h2.2.1⟩)
        rw [hI.cnt_ _ (by omega)] at h4
        have := hf p.1
        omega
      have hne := dNe_ref hcell hgd
      by_cases h0 : 0 < MP.cnt (F ++ G) lo
      · rcases List.eq_nil_or_concat Rr with eR | ⟨R', p, eR⟩
        · have hne : dNe (.ref S.length) (.lst []) (S ++ [⟨true, .lst (Rr.map encT)⟩]) = some (.bl false) := by rw [hne, eR]; rfl
          push_cast [L1__law_both, often_ok, ← MP.cnt_app, h0, hne, hlen2]
          have := fin (Rr ++ [(lo, hi - 1, MP.cnt (F ++ G) lo)]) (some (.int lo)) (some (.int hi)) (some (.int (MP.cnt (F ++ G) lo))) (hI.app h1 hlt hc h0 fun s hs => by rw [eR] at hs; cases hs) (by simp; omega)
          rw [List.map_append] at this
          exact this
        · have hne : dNe (.ref S.length) (.lst []) (S ++ [⟨true, .lst (Rr.map encT)⟩]) = some (.bl true) := by rw [hne, eR]; simp
          rw [List.concat_eq_append] at eR
          subst eR
          have hl3 : ((R' ++ [p]).map encT).length = R'.length + 1 := by simp
          have hap : (∀ s, (R' ++ [p]).getLast? = some s → s.2.1 = lo - 1 → s.2.2 ≠ MP.cnt (F ++ G) lo) → _ := fun hs => fin ((R' ++ [p]) ++ [(lo, hi - 1, MP.cnt (F ++ G) lo)]) (some (.int lo)) (some (.int hi)) (some (.int (MP.cnt (F ++ G) lo))) (hI.app h1 hlt hc h0 hs) (by simp at e5 ⊢; omega)
          rw [List.map_append] at hap
          push_cast [L1__law_both, often_ok, ← MP.cnt_app, h0, hne, hlen2, at_last, encT]
          have hlast : ∀ s, (R' ++ [p]).getLast? = some s → s = p := fun s hs => by
            rw [List.getLast?_concat] at hs
            cases hs
            rfl
          refine ⟨fun q1 => ⟨fun q2 => ⟨R'.length, by rw [List.length_append]; exact ixn_last _, ?_⟩, fun q2 => hap fun s hs _ => by rw [hlast s hs]; exact q2⟩, fun q1 => hap fun s hs q => absurd (hlast s hs ▸ q) q1⟩
          have ep : p = (p.1, lo - 1, MP.cnt (F ++ G) lo) := Prod.ext rfl (Prod.ext q1 q2)
          rw [ep] at hI
          have := fin (R' ++ [(p.1, hi - 1, MP.cnt (F ++ G) lo)]) (some (.int lo)) (some (.int hi)) (some (.int (MP.cnt (F ++ G) lo))) (hI.ext hlt hc) (by simp at e5 ⊢; omega)
          rw [set_last]
          rw [List.map_append] at this
          exact this
      · push_cast [L1__law_both, often_ok, ← MP.cnt_app, h0]
        exact fin Rr _ _ _ (hI.skip hlt hc (by have := hf lo; omega)) (by omega)
  · rintro ρ S2 ⟨A, C, Rr, x4, x5, x6, e1, e2, e3, e4, e5, rfl, rfl⟩
    push_cast
    rw [← MP.canon_fin hF (R := Rr) ?_ ?_]
    · match C, e1, e2, e3, e4 with
      | [], _, _, _, e4 => rw [(e4 rfl).1]; trivial
      | [b], _, _, e3, _ => exact (e3 b [] rfl).2.can
      | _ :: _ :: _, _, e2, _, _ => cases e2
    · match C, e1, e2, e3, e4 with
      | [], e1, _, _, e4 =>
        rw [(e4 rfl).2] at e1
        rw [(e4 rfl).1, MP.bgs_nil e1]
        exact fun _ => rfl
      | [b], e1, _, e3, _ => exact MP.bgs_end e1 (e3 b [] rfl).2
      | _ :: _ :: _, _, e2, _, _ => cases e2
end

end K15
end
section
set_option maxHeartbeats 4000000
set_option exponentiation.threshold 3000
namespace K15
open PySem PySem.Spec L2 DL
open PyProof.Rows hiding St
open Lean in
local macro_rules | `(tactic| push_cast [$ts,*]) => `(tactic| simp only [↓DL.r0, ↓DL.r1, ↓DL.r2, ↓DL.r3, ↓DL.r4, ↓DL.r5, ↓DL.r6, ↓DL.r7, ↓DL.r8, ↓DL.r9, ↓DL.r10, ↓DL.r11, ↓DL.r12, ↓DL.r13, ↓DL.r14, ↓DL.r15, ↓DL.r16, ↓DL.r17, ↓DL.r18, ↓DL.r19, ↓DL.r20, ↓DL.r21, ↓DL.r22, ↓DL.r23, ↓DL.r24, ↓DL.r25, ↓DL.r26, ↓DL.r27, ↓DL.r28, ↓DL.r29, DL.s0, DL.s1, DL.s2, DL.s3, DL.s4, DL.s5, DL.s6, DL.s7, DL.s8, DL.s9, DL.s10, DL.s11, DL.s12, DL.s13, DL.s14, DL.s15, DL.s16, DL.s17, DL.s18, DL.s19, DL.s20, DL.s21, DL.s22, DL.s23, DL.s24, DL.s25, DL.s26, DL.s27, DL.s28, DL.s29, DL.startD_cons, DL.startD_nil, DL.startD_zero, ↓DL.w_ok, ↓DL.w_some, ↓DL.w_somec, ↓DL.w_bind, ↓DL.w_opt, ↓DL.w_chg, ↓DL.w_kon, ↓DL.w_calm, ↓DL.w_b2, ↓DL.w_b2L, ↓DL.w_b1, ↓DL.wB_bl, ↓DL.w_asB, ↓DL.w_b2T, ↓DL.w_chE, ↓DL.w_chT, ↓DL.w_not, ↓DL.w_val, ↓DL.w_notE, ↓DL.w_ifE, ↓DL.w_ifL, ↓DL.w_andM, ↓DL.w_orM, ↓DL.w_andE, ↓DL.w_orE, ↓DL.w_nil, ↓DL.w_cons, ↓DL.w_tup, ↓DL.w_lst, ↓DL.w_frz, ↓DL.w_new, ↓DL.w_cel, ↓DL.w_cb, ↓DL.w_cbL, ↓DL.w_call, ↓DL.w_callL, ↓DL.w_ar0, ↓DL.w_ar1, ↓DL.w_ar2, ↓DL.w_ar3, ↓DL.w_ar4, ↓DL.w_ar5, ↓DL.w_ar6, ↓DL.w_noO, ↓DL.w_smO, ↓DL.w_sl, ↓DL.w_slL, ↓DL.w_rev, ↓DL.w_step, ↓DL.w_isi, ↓DL.w_sets, ↓DL.w_lrg, ↓DL.w_mth, ↓DL.w_mth0, ↓DL.w_itS, ↓DL.w_itR1, ↓DL.w_itR2, ↓DL.w_itR3, ↓DL.w_itZ, ↓DL.w_itN, ↓DL.w_lc, ↓DL.w_nx, ↓DL.w_rt, ↓DL.w_seq, ↓DL.w_set, ↓DL.wPar_2, ↓DL.w_par, ↓DL.w_aug, ↓DL.w_sto, ↓DL.w_exp, ↓DL.w_ret, ↓DL.w_retN, ↓DL.w_nxS, ↓DL.w_ifS, ↓DL.w_for, ↓DL.w_asg, ↓DL.w_stk, ↓DL.w_body, ↓DL.w_bodyL, ↓DL.wret_non, ↓DL.wret_bl, ↓DL.wret_int, ↓DL.wret_str, ↓DL.wif_t, ↓DL.wif_f, ↓DL.wif_d, ↓DL.wif_n, ↓DL.wif_a, ↓DL.wif_o, DL.few0, DL.few1, DL.few2, DL.few3, DL.few4, DL.few5, DL.few6, DL.few7, DL.few8, DL.few9, DL.few10, true_and, and_true, ↓DL.a_nm, ↓DL.a_tp1, ↓DL.a_tp2, ↓DL.a_tp3, ↓DL.a_tp4, ↓DL.a_tp5, ↓DL.a_tpn, ↓DL.a_tpm, ↓DL.a_encP, DL.wipe_nil, DL.wipe_cons, DL.o_add, DL.o_sub, DL.o_neg, ↓DL.o_mul, ↓DL.o_div, ↓DL.o_mod, DL.o_pow, ↓DL.o_p10_3, ↓DL.o_p10_4, ↓DL.o_p10_6, ↓DL.o_p10_8, ↓DL.o_p10_9, ↓DL.o_p10_12, ↓DL.o_p10_15, ↓DL.o_p10_18, ↓DL.o_p10_20, ↓DL.o_p10_25, ↓DL.o_p10_26, ↓DL.o_p10_27, ↓DL.o_p10_28, ↓DL.o_p10_29, ↓DL.o_p10_30, ↓DL.o_p10_31, ↓DL.o_p10_36, ↓DL.o_p10_38, ↓DL.o_p10_40, ↓DL.o_p10_42, ↓DL.o_p10_44, ↓DL.o_p10_46, ↓DL.o_p10_48, ↓DL.o_p10_50, ↓DL.o_p10_60, ↓DL.o_p10_64, ↓DL.o_p10_70, ↓DL.o_p10_90, ↓DL.o_p10_99, ↓DL.o_p10_100, ↓DL.o_addS, ↓DL.o_addT, ↓DL.o_catL, ↓DL.o_addL, DL.o_lt, DL.o_le, DL.o_gt, DL.o_ge, DL.o_eqI, DL.o_neI, DL.o_eqS, DL.o_neS, DL.o_is, DL.o_isn, DL.n_non, DL.n_bl, DL.n_int, DL.n_str, DL.n_lst, DL.n_tup, DL.n_ref, DL.n_obj, DL.i_non_int, DL.i_non_bool, DL.i_non_str, DL.i_non_list, DL.i_non_tuple, DL.i_bl_int, DL.i_bl_bool, DL.i_bl_str, DL.i_bl_list, DL.i_bl_tuple, DL.i_int_int, DL.i_int_bool, DL.i_int_str, DL.i_int_list, DL.i_int_tuple, DL.i_str_int, DL.i_str_bool, DL.i_str_str, DL.i_str_list, DL.i_str_tuple, DL.i_lst_int, DL.i_lst_bool, DL.i_lst_str, DL.i_lst_list, DL.i_lst_tuple, DL.i_tup_int, DL.i_tup_bool, DL.i_tup_str, DL.i_tup_list, DL.i_tup_tuple, DL.t_non, DL.t_bl, DL.t_int, DL.t_lst, DL.t_tup, ↓DL.x_lst, ↓DL.x_tup, ↓DL.x_encP0, ↓DL.x_encP1, DL.ixn1_0, DL.ixn1_m1, DL.ixn2_0, DL.ixn2_1, DL.ixn2_m1, DL.ixn3_0, DL.ixn3_1, DL.ixn3_2, DL.ixn3_m1, DL.ixn4_0, DL.ixn4_1, DL.ixn4_2, DL.ixn4_3, DL.ixn4_m1, DL.ixn5_0, DL.ixn5_1, DL.ixn5_2, DL.ixn5_3, DL.ixn5_4, DL.ixn5_m1, DL.ixn6_0, DL.ixn6_1, DL.ixn6_2, DL.ixn6_3, DL.ixn6_4, DL.ixn6_5, DL.ixn6_m1, DL.ixn7_0, DL.ixn7_1, DL.ixn7_2, DL.ixn7_3, DL.ixn7_4, DL.ixn7_5, DL.ixn7_6, DL.ixn7_m1, DL.ixn8_0, DL.ixn8_1, DL.ixn8_2, DL.ixn8_3, DL.ixn8_4, DL.ixn8_5, DL.ixn8_6, DL.ixn8_7, DL.ixn8_m1, ↓DL.x1_0, ↓DL.x1_m1, ↓DL.x2_0, ↓DL.x2_1, ↓DL.x2_m1, ↓DL.x3_0, ↓DL.x3_1, ↓DL.x3_2, ↓DL.x3_m1, ↓DL.x4_0, ↓DL.x4_1, ↓DL.x4_2, ↓DL.x4_3, ↓DL.x4_m1, ↓DL.x5_0, ↓DL.x5_1, ↓DL.x5_2, ↓DL.x5_3, ↓DL.x5_4, ↓DL.x5_m1, ↓DL.x6_0, ↓DL.x6_1, ↓DL.x6_2, ↓DL.x6_3, ↓DL.x6_4, ↓DL.x6_5, ↓DL.x6_m1, ↓DL.x7_0, ↓DL.x7_1, ↓DL.x7_2, ↓DL.x7_3, ↓DL.x7_4, ↓DL.x7_5, ↓DL.x7_6, ↓DL.x7_m1, ↓DL.x8_0, ↓DL.x8_1, ↓DL.x8_2, ↓DL.x8_3, ↓DL.x8_4, ↓DL.x8_5, ↓DL.x8_6, ↓DL.x8_7, ↓DL.x8_m1, DL.c_abs, DL.c_max2, DL.c_min2, DL.c_int, DL.c_intb, DL.c_lenS, DL.c_lenT, DL.c_lenL, DL.c_listT, DL.c_listL, DL.c_tupT, DL.c_tupL, DL.c_sum, DL.c_sum0, DL.c_all, DL.c_any, DL.c_minP, DL.c_maxP, DL.c_sortP, DL.c_zip, DL.c_enum, DL.c_range1, DL.c_range2, DL.g_lst, DL.g_tup, DL.g_str, DL.p_int, DL.sq_lst, DL.sl_lst, DL.sl_tup, DL.sl_str, DL.slL_lst, DL.om_some, List.set_cons_zero, List.set_cons_succ, DL.m_tyL, DL.m_tyS, DL.m_ty, DL.m_app, DL.m_sto, DL.m_fzL, DL.m_fzI, DL.m_fzT, DL.m_fz, DL.x_ref, DL.c_lenR, DL.c_listR, DL.c_tupR, DL.sl_ref, DL.atL_new, DL.atL_new1, DL.atL_new2, DL.atL_old, DL.set_new, DL.set_new1, DL.set_new2, DL.set_old, DL.take_app, DL.app_app, DL.cons_app, DL.nil_app, DL.len_app1, DL.len_app2, DL.len_app3, DL.len_set, DL.seq_new, DL.seq_new1, DL.seq_new2, DL.seq_old, DL.ex_some, DL.fl_non, DL.fl_int, DL.fl_bl, DL.fl_str, DL.fl_tup, DL.fl_lst, DL.fl_obj, DL.fl_nil, DL.fl_cons, DL.fl_app, DL.fl_encP, Bool.and_self, Bool.and_true, Bool.true_and, List.set_set, ↓DL.w_yes, ↓DL.w_fld, ↓DL.w_mt, ↓DL.w_mtL, ↓DL.w_mt0, ↓DL.w_mt0L, ↓DL.w_ic, DL.isO_obj, ↓DL.w_make, ↓DL.w_b2M, ↓DL.w_b2MT, ↓DL.w_uM, ↓DL.w_inv, ↓DL.w_bin_obj, ↓DL.w_bin_int, ↓DL.w_fldS, DL.m_fld, DL.atI_new, DL.putD, ↓DL.w_repL, ↓DL.w_isiC, ↓DL.w_par3, ↓DL.wPar3_3, DL.m_count, DL.wretL_new, DL.wret_new, ↓DL.c_setSort, List.take_length, List.length_cons, List.length_nil, List.length_map, Int.cast_ofNat_Int, Bool.not_true, Bool.not_false, Int.reduceAdd, Int.reduceSub, Int.reduceMul, Int.reduceNeg, Int.reduceEq, Int.reduceLT, Int.reduceLE, Nat.reduceAdd, Nat.reduceSub, eq_self, not_true_eq_false, not_false_eq_true, false_implies, implies_true, true_implies, $ts,*])
open Lean in
local macro_rules | `(tactic| push_cast) => `(tactic| simp only [↓DL.r0, ↓DL.r1, ↓DL.r2, ↓DL.r3, ↓DL.r4, ↓DL.r5, ↓DL.r6, ↓DL.r7, ↓DL.r8, ↓DL.r9, ↓DL.r10, ↓DL.r11, ↓DL.r12, ↓DL.r13, ↓DL.r14, ↓DL.r15, ↓DL.r16, ↓DL.r17, ↓DL.r18, ↓DL.r19, ↓DL.r20, ↓DL.r21, ↓DL.r22, ↓DL.r23, ↓DL.r24, ↓DL.r25, ↓DL.r26, ↓DL.r27, ↓DL.r28, ↓DL.r29, DL.s0, DL.s1, DL.s2, DL.s3, DL.s4, DL.s5, DL.s6, DL.s7, DL.s8, DL.s9, DL.s10, DL.s11, DL.s12, DL.s13, DL.s14, DL.s15, DL.s16, DL.s17, DL.s18, DL.s19, DL.s20, DL.s21, DL.s22, DL.s23, DL.s24, DL.s25, DL.s26, DL.s27, DL.s28, DL.s29, DL.startD_cons, DL.startD_nil, DL.startD_zero, ↓DL.w_ok, ↓DL.w_some, ↓DL.w_somec, ↓DL.w_bind, ↓DL.w_opt, ↓DL.w_chg, ↓DL.w_kon, ↓DL.w_calm, ↓DL.w_b2, ↓DL.w_b2L, ↓DL.w_b1, ↓DL.wB_bl, ↓DL.w_asB, ↓DL.w_b2T, ↓DL.w_chE, ↓DL.w_chT, ↓DL.w_not, ↓DL.w_val, ↓DL.w_notE, ↓DL.w_ifE, ↓DL.w_ifL, ↓DL.w_andM, ↓DL.w_orM, ↓DL.w_andE, ↓DL.w_orE, ↓DL.w_nil, ↓DL.w_cons, ↓DL.w_tup, ↓DL.w_lst, ↓DL.w_frz, ↓DL.w_new, ↓DL.w_cel, ↓DL.w_cb, ↓DL.w_cbL, ↓DL.w_call, ↓DL.w_callL, ↓DL.w_ar0, ↓DL.w_ar1, ↓DL.w_ar2, ↓DL.w_ar3, ↓DL.w_ar4, ↓DL.w_ar5, ↓DL.w_ar6, ↓DL.w_noO, ↓DL.w_smO, ↓DL.w_sl, ↓DL.w_slL, ↓DL.w_rev, ↓DL.w_step, ↓DL.w_isi, ↓DL.w_sets, ↓DL.w_lrg, ↓DL.w_mth, ↓DL.w_mth0, ↓DL.w_itS, ↓DL.w_itR1, ↓DL.w_itR2, ↓DL.w_itR3, ↓DL.w_itZ, ↓DL.w_itN, ↓DL.w_lc, ↓DL.w_nx, ↓DL.w_rt, ↓DL.w_seq, ↓DL.w_set, ↓DL.wPar_2, ↓DL.w_par, ↓DL.w_aug, ↓DL.w_sto, ↓DL.w_exp, ↓DL.w_ret, ↓DL.w_retN, ↓DL.w_nxS, ↓DL.w_ifS, ↓DL.w_for, ↓DL.w_asg, ↓DL.w_stk, ↓DL.w_body, ↓DL.w_bodyL, ↓DL.wret_non, ↓DL.wret_bl, ↓DL.wret_int, ↓DL.wret_str, ↓DL.wif_t, ↓DL.wif_f, ↓DL.wif_d, ↓DL.wif_n, ↓DL.wif_a, ↓DL.wif_o, DL.few0, DL.few1, DL.few2, DL.few3, DL.few4, DL.few5, DL.few6, DL.few7, DL.few8, DL.few9, DL.few10, true_and, and_true, ↓DL.a_nm, ↓DL.a_tp1, ↓DL.a_tp2, ↓DL.a_tp3, ↓DL.a_tp4, ↓DL.a_tp5, ↓DL.a_tpn, ↓DL.a_tpm, ↓DL.a_encP, DL.wipe_nil, DL.wipe_cons, DL.o_add, DL.o_sub, DL.o_neg, ↓DL.o_mul, ↓DL.o_div, ↓DL.o_mod, DL.o_pow, ↓DL.o_p10_3, ↓DL.o_p10_4, ↓DL.o_p10_6, ↓DL.o_p10_8, ↓DL.o_p10_9, ↓DL.o_p10_12, ↓DL.o_p10_15, ↓DL.o_p10_18, ↓DL.o_p10_20, ↓DL.o_p10_25, ↓DL.o_p10_26, ↓DL.o_p10_27, ↓DL.o_p10_28, ↓DL.o_p10_29, ↓DL.o_p10_30, ↓DL.o_p10_31, ↓DL.o_p10_36, ↓DL.o_p10_38, ↓DL.o_p10_40, ↓DL.o_p10_42, ↓DL.o_p10_44, ↓DL.o_p10_46, ↓DL.o_p10_48, ↓DL.o_p10_50, ↓DL.o_p10_60, ↓DL.o_p10_64, ↓DL.o_p10_70, ↓DL.o_p10_90, ↓DL.o_p10_99, ↓DL.o_p10_100, ↓DL.o_addS, ↓DL.o_addT, ↓DL.o_catL, ↓DL.o_addL, DL.o_lt, DL.o_le, DL.o_gt, DL.o_ge, DL.o_eqI, DL.o_neI, DL.o_eqS, DL.o_neS, DL.o_is, DL.o_isn, DL.n_non, DL.n_bl, DL.n_int, DL.n_str, DL.n_lst, DL.n_tup, DL.n_ref, DL.n_obj, DL.i_non_int, DL.i_non_bool, DL.i_non_str, DL.i_non_list, DL.i_non_tuple, DL.i_bl_int, DL.i_bl_bool, DL.i_bl_str, DL.i_bl_list, DL.i_bl_tuple, DL.i_int_int, DL.i_int_bool, DL.i_int_str, DL.i_int_list, DL.i_int_tuple, DL.i_str_int, DL.i_str_bool, DL.i_str_str, DL.i_str_list, DL.i_str_tuple, DL.i_lst_int, DL.i_lst_bool, DL.i_lst_str, DL.i_lst_list, DL.i_lst_tuple, DL.i_tup_int, DL.i_tup_bool, DL.i_tup_str, DL.i_tup_list, DL.i_tup_tuple, DL.t_non, DL.t_bl, DL.t_int, DL.t_lst, DL.t_tup, ↓DL.x_lst, ↓DL.x_tup, ↓DL.x_encP0, ↓DL.x_encP1, DL.ixn1_0, DL.ixn1_m1, DL.ixn2_0, DL.ixn2_1, DL.ixn2_m1, DL.ixn3_0, DL.ixn3_1, DL.ixn3_2, DL.ixn3_m1, DL.ixn4_0, DL.ixn4_1, DL.ixn4_2, DL.ixn4_3, DL.ixn4_m1, DL.ixn5_0, DL.ixn5_1, DL.ixn5_2, DL.ixn5_3, DL.ixn5_4, DL.ixn5_m1, DL.ixn6_0, DL.ixn6_1, DL.ixn6_2, DL.ixn6_3, DL.ixn6_4, DL.ixn6_5, DL.ixn6_m1, DL.ixn7_0, DL.ixn7_1, DL.ixn7_2, DL.ixn7_3, DL.ixn7_4, DL.ixn7_5, DL.ixn7_6, DL.ixn7_m1, DL.ixn8_0, DL.ixn8_1, DL.ixn8_2, DL.ixn8_3, DL.ixn8_4, DL.ixn8_5, DL.ixn8_6, DL.ixn8_7, DL.ixn8_m1, ↓DL.x1_0, ↓DL.x1_m1, ↓DL.x2_0, ↓DL.x2_1, ↓DL.x2_m1, ↓DL.x3_0, ↓DL.x3_1, ↓DL.x3_2, ↓DL.x3_m1, ↓DL.x4_0, ↓DL.x4_1, ↓DL.x4_2, ↓DL.x4_3, ↓DL.x4_m1, ↓DL.x5_0, ↓DL.x5_1, ↓DL.x5_2, ↓DL.x5_3, ↓DL.x5_4, ↓DL.x5_m1, ↓DL.x6_0, ↓DL.x6_1, ↓DL.x6_2, ↓DL.x6_3, ↓DL.x6_4, ↓DL.x6_5, ↓DL.x6_m1, ↓DL.x7_0, ↓DL.x7_1, ↓DL.x7_2, ↓DL.x7_3, ↓DL.x7_4, ↓DL.x7_5, ↓DL.x7_6, ↓DL.x7_m1, ↓DL.x8_0, ↓DL.x8_1, ↓DL.x8_2, ↓DL.x8_3, ↓DL.x8_4, ↓DL.x8_5, ↓DL.x8_6, ↓DL.x8_7, ↓DL.x8_m1, DL.c_abs, DL.c_max2, DL.c_min2, DL.c_int, DL.c_intb, DL.c_lenS, DL.c_lenT, DL.c_lenL, DL.c_listT, DL.c_listL, DL.c_tupT, DL.c_tupL, DL.c_sum, DL.c_sum0, DL.c_all, DL.c_any, DL.c_minP, DL.c_maxP, DL.c_sortP, DL.c_zip, DL.c_enum, DL.c_range1, DL.c_range2, DL.g_lst, DL.g_tup, DL.g_str, DL.p_int, DL.sq_lst, DL.sl_lst, DL.sl_tup, DL.sl_str, DL.slL_lst, DL.om_some, List.set_cons_zero, List.set_cons_succ, DL.m_tyL, DL.m_tyS, DL.m_ty, DL.m_app, DL.m_sto, DL.m_fzL, DL.m_fzI, DL.m_fzT, DL.m_fz, DL.x_ref, DL.c_lenR, DL.c_listR, DL.c_tupR, DL.sl_ref, DL.atL_new, DL.atL_new1, DL.atL_new2, DL.atL_old, DL.set_new, DL.set_new1, DL.set_new2, DL.set_old, DL.take_app, DL.app_app, DL.cons_app, DL.nil_app, DL.len_app1, DL.len_app2, DL.len_app3, DL.len_set, DL.seq_new, DL.seq_new1, DL.seq_new2, DL.seq_old, DL.ex_some, DL.fl_non, DL.fl_int, DL.fl_bl, DL.fl_str, DL.fl_tup, DL.fl_lst, DL.fl_obj, DL.fl_nil, DL.fl_cons, DL.fl_app, DL.fl_encP, Bool.and_self, Bool.and_true, Bool.true_and, List.set_set, ↓DL.w_yes, ↓DL.w_fld, ↓DL.w_mt, ↓DL.w_mtL, ↓DL.w_mt0, ↓DL.w_mt0L, ↓DL.w_ic, DL.isO_obj, ↓DL.w_make, ↓DL.w_b2M, ↓DL.w_b2MT, ↓DL.w_uM, ↓DL.w_inv, ↓DL.w_bin_obj, ↓DL.w_bin_int, ↓DL.w_fldS, DL.m_fld, DL.atI_new, DL.putD, ↓DL.w_repL, ↓DL.w_isiC, ↓DL.w_par3, ↓DL.wPar3_3, DL.m_count, DL.wretL_new, DL.wret_new, ↓DL.c_setSort, List.take_length, List.length_cons, List.length_nil, List.length_map, Int.cast_ofNat_Int, Bool.not_true, Bool.not_false, Int.reduceAdd, Int.reduceSub, Int.reduceMul, Int.reduceNeg, Int.reduceEq, Int.reduceLT, Int.reduceLE, Nat.reduceAdd, Nat.reduceSub, eq_self, not_true_eq_false, not_false_eq_true, false_implies, implies_true, true_implies])
/-! k15: shown, alike, added, multiplied -/
section
variable {S R : Cells} {E : Xc → Cells → Prop} {Q : D → Cells → Prop} {QL : List D → Cells → Prop}
/-- a canonical list, its length, how far and how often -/
structure PG (z : Nat) (t : Int) (J : List MP.T) : Prop where
  can : MP.Canon 1 J
  len : J.length ≤ z
  far : ∀ p ∈ J, p.2.1 ≤ 10 ^ 50
  oft : ∀ p ∈ J, p.2.2 ≤ t
  nn : 0 ≤ t
theorem PG.pos {z : Nat} {t : Int} {J : List MP.T} (h : PG z t J) : ∀ p ∈ J, 1 ≤ p.1 ∧ p.1 ≤ p.2.1 ∧ 0 ≤ p.2.2 := pos_of (Int.le_refl 1) h.can.asc
theorem PG.cnt {z : Nat} {t : Int} {J : List MP.T} (h : PG z t J) (d : Int) : 0 ≤ MP.cnt J d ∧ MP.cnt J d ≤ t := by
  refine ⟨MP.cnt_nn (fun p hp => (h.pos p hp).2.2) d, ?_⟩
  by_cases q : MP.cnt J d = 0
  · rw [q]; exact h.nn
  · obtain ⟨p, hp, hi⟩ := MP.cnt_mem q
    rw [MP.asc_cnt h.can.asc hp hi]
    exact h.oft p hp
theorem PG.same {z : Nat} {t : Int} {J K : List MP.T} (h : PG z t J) (k : MP.Canon 1 K) (e : ∀ d, MP.cnt K d = MP.cnt J d) : K = J := MP.canon_uniq k h.can e
/-- .. from where they come -/
theorem PG.of {z : Nat} {t : Int} {J : List MP.T} (hc : MP.Canon 1 J) (hl : J.length ≤ z) (ht : 0 ≤ t) (hf : ∀ d, 10 ^ 50 < d → MP.cnt J d = 0) (ho : ∀ d, MP.cnt J d ≤ t) : PG z t J :=
  ⟨hc, hl, fun p hp => by
    have hm := hc.asc.mem p hp
    have e := MP.asc_cnt hc.asc hp (d := p.2.1) (MP.inT_iff.mpr ⟨hm.2.1, Int.le_refl _⟩)
    refine Classical.byContradiction fun z => ?_
    have := hf p.2.1 (by omega)
    omega, fun p hp => by
    have hm := hc.asc.mem p hp
    have e := MP.asc_cnt hc.asc hp (d := p.2.1) (MP.inT_iff.mpr ⟨hm.2.1, Int.le_refl _⟩)
    have := ho p.2.1
    omega, ht⟩
theorem PG.beyond {z : Nat} {t : Int} {J : List MP.T} (h : PG z t J) {d : Int} (hd : 10 ^ 50 < d) : MP.cnt J d = 0 := by
  refine Classical.byContradiction fun q => ?_
  obtain ⟨p, hp, hi⟩ := MP.cnt_mem q
  have := h.far p hp
  have := MP.inT_iff.mp hi
  omega
theorem PG.add {z z' : Nat} {t t' : Int} {J K : List MP.T} (h : PG z t J) (k : PG z' t' K) : PG (2 * (z + z')) (t + t') (MP.fin (J ++ K)) ∧ ∀ d, MP.cnt (MP.fin (J ++ K)) d = MP.cnt J d + MP.cnt K d := by
  obtain ⟨h1, h2⟩ := MP.fin_ok (pos_app h.pos k.pos)
  have h2 : ∀ d, MP.cnt (MP.fin (J ++ K)) d = MP.cnt J d + MP.cnt K d := fun d => by rw [h2, MP.cnt_app]
  have := h.nn
  have := k.nn
  refine ⟨.of h1 ?_ (by omega) (fun d hd => ?_) (fun d => ?_), h2⟩
  · have := MP.fin_len (J ++ K)
    rw [List.length_append] at this
    have := h.len
    have := k.len
    omega
  · rw [h2, h.beyond hd, k.beyond hd]; rfl
  · rw [h2]
    have := h.cnt d
    have := k.cnt d
    omega
theorem PG.sc {z : Nat} {t m : Int} {J : List MP.T} (h : PG z t J) (hm : 0 ≤ m) : PG z (m * t) (MP.sc m J) :=
  .of (MP.canon_sc h.can) (Nat.le_trans MP.len_sc h.len) (Int.mul_nonneg hm h.nn) (fun d hd => by rw [MP.cnt_sc hm, h.beyond hd, Int.mul_zero]) fun d => by
    rw [MP.cnt_sc hm]
    exact Int.mul_le_mul_of_nonneg_left (h.cnt d).2 hm
theorem isC_cold {c : Int} {J : List MP.T} : isC NMf 0 "cold" (prof c J) S = some () := fm_Profile_cold
theorem isC_pieces {c : Int} {J : List MP.T} : isC NMf 0 "pieces" (prof c J) S = some () := fm_Profile_pieces
theorem cold_ok {c : Int} {J : List MP.T} : g_Profile_cold [prof c J] S = .ok (.int c) S := by
  refine wp_ok ?_
  push_cast [g_Profile_cold, B_Profile_cold, fc]
theorem pieces_ok {c : Int} {J : List MP.T} : g_Profile_pieces [prof c J] S = .ok (J.map encT) S := by
  refine wp_ok ?_
  push_cast [g_Profile_pieces, B_Profile_pieces, fp]
  exact fl_ts
theorem PG.gd {z : Nat} {t : Int} {J : List MP.T} (h : PG z t J) (ht : t < 10 ^ 90) : Gd 2 (.lst (J.map encT)) := gd_pieces fun p hp => by
  have := h.pos p hp
  have := h.far p hp
  have := h.oft p hp
  omega
/-- text whose signs are signs -/
def good (x : Str) : Prop := ∀ c ∈ x.cps.toList, c < 0x110000
theorem good_int (i : Int) : good (PyData.int i).shown := fun c hc => by
  refine Classical.byContradiction fun z => ?_
  exact PyProof.Rows.shown_int_free' (k := c) ⟨by omega, by omega⟩ i hc
theorem good_app {x y : Str} (hx : good x) (hy : good y) : good (x ++ y) := fun c hc => (PyProof.Rows.mem_cps_append.mp hc).elim (hx c) (hy c)
theorem good_join {ts : List Str} (h : ∀ t ∈ ts, good t) : good (Str.join ", " ts) := fun c hc => by
  rcases (PyProof.Rows.mem_join _ c ts).mp hc with ⟨t, ht, hc⟩ | ⟨_, hc⟩
  · exact h t ht c hc
  · have e : ((", " : String) : Str).cps.toList = [44, 32] := PyProof.Rows.signs_sep
    rw [e] at hc
    simp only [List.mem_cons, List.not_mem_nil, or_false] at hc
    omega
theorem good_of {s : String} (h : (Str.ofString s).cps.toList.all (fun c => decide (c < 0x110000)) = true) : good (Str.ofString s) := fun c hc => of_decide_eq_true (List.all_eq_true.mp h c hc)
theorem good_list {ts : List Str} (h : ∀ t ∈ ts, good t) : good (listText ts) := by
  rw [listText_eq_join]
  exact good_app (good_app (good_of (by decide)) (good_join h)) (good_of (by decide))
theorem good_tuple {ts : List Str} (h : ∀ t ∈ ts, good t) : good (tupleText ts) := by
  unfold tupleText
  refine good_app (good_app (good_of (by decide)) (good_join h)) ?_
  split <;> exact good_of (by decide)
def pyT (p : MP.T) : PyData := .tuple [.int p.1, .int p.2.1, .int p.2.2]
theorem toPyL_T : ∀ J : List MP.T, toPyL (J.map encT) = some (J.map pyT)
  | [] => rfl
  | p :: J => by
    show (match toPy (encT p), toPyL (J.map encT) with
      | some e, some es => some (e :: es)
      | _, _ => none) = _
    rw [toPyL_T J]
    rfl
theorem vw_pr {c : Int} {J : List MP.T} : vw S (.lst [.int c, .lst (J.map encT)]) = some (.list [.int c, .list (J.map pyT)]) := by
  have e1 : toPy (.lst (J.map encT)) = some (.list (J.map pyT)) := by
    show (match toPyL (J.map encT) with | some m => some (PyData.list m) | none => none) = _
    rw [toPyL_T]
  unfold vw
  rw [resv_flat _ _ _ (by rw [flat_lst, fl_cons, fl_cons, fl_int, fl_lst, fl_ts]; rfl)]
  show (match (match toPy (.int c), (match toPy (.lst (J.map encT)), toPyL [] with
      | some e, some es => some (e :: es)
      | _, _ => none) with
    | some e, some es => some (e :: es)
    | _, _ => none) with | some m => some (PyData.list m) | none => none) = _
  rw [e1]
  rfl
theorem good_T (J : List MP.T) : ∀ t ∈ PyData.shownAll (J.map pyT), good t := by
  induction J with
  | nil => intro t ht; cases ht
  | cons p J ih =>
    intro t ht
    rw [List.map_cons, PyData.shownAll_cons] at ht
    rcases List.mem_cons.mp ht with e | ht
    · subst e
      show good (tupleText (PyData.shownAll [.int p.1, .int p.2.1, .int p.2.2]))
      refine good_tuple fun t ht => ?_
      rw [PyData.shownAll_cons, PyData.shownAll_cons, PyData.shownAll_cons, PyData.shownAll_nil] at ht
      simp only [List.mem_cons, List.not_mem_nil, or_false] at ht
      rcases ht with e | e | e <;> subst e <;> exact good_int _
    · exact ih t ht
theorem good_pr {c : Int} {J : List MP.T} {X : Str} (h : reprD [.lst [.int c, .lst (J.map encT)]] S = some (.str X)) : good X := by
  have h : (match vw S (.lst [.int c, .lst (J.map encT)]) with
      | some p => match p with
        | .list _ => if p.showable = true ∧ p.hasDict = false ∧ p.depth ≤ 60 ∧ p.shown.length ≤ sizeLine then some (D.str p.shown) else none
        | .tuple _ => if p.showable = true ∧ p.hasDict = false ∧ p.depth ≤ 60 ∧ p.shown.length ≤ sizeLine then some (D.str p.shown) else none
        | _ => none
      | none => none) = some (D.str X) := h
  rw [vw_pr] at h
  simp only at h
  split at h
  · cases h
    show good (listText (PyData.shownAll [.int c, .list (J.map pyT)]))
    refine good_list fun t ht => ?_
    rw [PyData.shownAll_cons, PyData.shownAll_cons, PyData.shownAll_nil] at ht
    simp only [List.mem_cons, List.not_mem_nil, or_false] at ht
    rcases ht with e | e <;> subst e
    · exact good_int _
    · show good (listText (PyData.shownAll (J.map pyT)))
      exact good_list (good_T J)
  · cases h
theorem eq_strs {x y : Str} (hx : good x) (hy : good y) : dEq (.lst [.str x, .str y]) (.lst [.str x, .str y]) S = some (.bl true) := by
  have e : vw S (.lst [.str x, .str y]) = some (.list [.str x, .str y]) := by
    unfold vw
    rw [resv_flat _ _ _ (by rw [flat_lst, fl_cons, fl_cons, fl_str, fl_str]; rfl)]
    rfl
  have ok : ∀ {x : Str}, good x → PyData.strOk x = true := fun {x} h => by
    unfold PyData.strOk
    rw [← Array.all_toList]
    exact List.all_eq_true.mpr fun c hc => decide_eq_true (h c hc)
  have sh : SeqAt.shaped (.list [.str x, .str y]) = true := by
    show ((PyData.strOk x && (PyData.strOk y && true)) && decide (PyData.depth (.list [.str x, .str y]) ≤ 64)) = true
    rw [ok hx, ok hy]
    rfl
  show (eqP _ _ S).map D.bl = _
  rw [eqP_of e e sh sh, SeqAt.eqv_refl_plain _ rfl]
  rfl
theorem shown_ok {z : Nat} {t c : Int} {J : List MP.T} (h : PG z t J) (hc : 0 ≤ c ∧ c < 10 ^ 90) (ht : t < 10 ^ 90) (hz : z ≤ 2000) : ∃ X, good X ∧ (∀ S, reprD [.lst [.int c, .lst (J.map encT)]] S = some (.str X)) ∧ ∀ S, g__law_shown [prof c J] S = .ok (.str X) S := by
  obtain ⟨X, hX⟩ := repr_some (n := 3) (d := .lst [.int c, .lst (J.map encT)]) (.lst fun d hd => by
      simp only [List.mem_cons, List.not_mem_nil, or_false] at hd
      rcases hd with e | e <;> subst e
      · exact .int (logOk_of (lt_pow (b := 300) hc.1 hc.2 (by decide)))
      · exact h.gd ht) (by decide) (by
      rw [wt_lst, wtL_cons, wtL_cons, wtL_nil, wt_int, wt_lst]
      have := wtL_le (f := encT) (l := J) (w := 5772) fun p _ => by
        unfold encT
        rw [wt_tup, wtL_cons, wtL_cons, wtL_cons, wtL_nil, wt_int, wt_int, wt_int]
        decide
      have := z24
      have := h.len
      omega) (fun x e => by cases e) (fun x e => by cases e)
  refine ⟨X, good_pr (hX []), hX, fun S => wp_ok ?_⟩
  push_cast [g__law_shown, B__law_shown, isC_cold, isC_pieces, cold_ok, pieces_ok, hX]
theorem eqO {z : Nat} {t c : Int} {J : List MP.T} (h : PG z t J) (ht : t < 10 ^ 90) : ∀ S, eqOwn 0 g_Profile___eq__ (prof c J) (prof c J) S = .ok (.bl true) S := fun S => wp_ok (w_eq_obj (by
  have e : ∀ S, dEq (.tup (J.map encT)) (.tup (J.map encT)) S = some (.bl true) := fun S => dEq_same (n := 2) (.tup (by
    have := h.gd ht
    cases this with
    | lst q => exact q)) (by decide)
  push_cast [g_Profile___eq__, B_Profile___eq__]
  have e2 : isiCD tab_Profile (.obj 0 [.int c, .tup (J.map encT)]) S = some (.bl true) := rfl
  push_cast [e2, ff_Profile_own_cold, ff_Profile_own_pieces, decide_true, e]
  exact ⟨true, rfl, rfl⟩))
theorem addO {z z' : Nat} {a b c t t' : Int} {J K L : List MP.T} (h : PG z t J) (k : PG z' t' K) (ha : 0 ≤ a) (hb : 0 ≤ b) (hz : z + z' ≤ 5000) (ec : c = a + b) (hL : MP.Canon 1 L) (e : ∀ d, MP.cnt L d = MP.cnt J d + MP.cnt K d) : ∀ S, binOwn 0 g_Profile___add__ (prof a J) (prof b K) S = .ok (prof c L) S := fun S => by
  have h1 := h.len
  have h2 := k.len
  have hs : MP.fin (J ++ K) = L := MP.canon_uniq (h.add k).1.can hL fun d => by rw [(h.add k).2, e]
  have := add_ok (S := S) (a := a) (b := b) (by omega) h.can k.can (by omega)
  rw [hs, ← ec] at this
  exact wp_ok (by
    show wp (binOwn 0 g_Profile___add__ (.obj 0 _) (.obj 0 _) S) _ _
    rw [w_bin_obj]
    exact wp_of this ⟨rfl, rfl⟩)
theorem mulO {z : Nat} {a c m t : Int} {J L : List MP.T} (h : PG z t J) (ha : 0 ≤ a ∧ a < 10 ^ 90) (hm : 0 ≤ m ∧ m ≤ 10 ^ 30) (ht : t < 10 ^ 90) (hz : z ≤ 5000) (ec : c = a * m) (hL : MP.Canon 1 L) (e : ∀ d, MP.cnt L d = m * MP.cnt J d) : ∀ S, binOwn 0 g_Profile___mul__ (prof a J) (.int m) S = .ok (prof c L) S := fun S => by
  have h1 := h.len
  have hs : MP.sc m J = L := MP.canon_uniq (MP.canon_sc h.can) hL fun d => by rw [MP.cnt_sc hm.1, e]
  have := mul_ok (S := S) ha hm h.can (fun p hp => by have := h.oft p hp; omega) (by omega)
  rw [hs, ← ec] at this
  exact wp_ok (by
    show wp (binOwn 0 g_Profile___mul__ (.obj 0 _) (.int m) S) _ _
    rw [w_bin_int]
    exact wp_of this ⟨rfl, rfl⟩)
theorem sc_filter {t : Int} {J : List MP.T} : (J.filter fun _ => decide (t > 0)).map (fun p => encT (p.1, p.2.1, t * p.2.2)) = (MP.sc t J).map encT := by
  unfold MP.sc
  by_cases h : t > 0
  · simp [h]
    rw [show J.filter (fun _ => true) = J from List.filter_eq_self.mpr fun _ _ => rfl]
    rfl
  · simp [h]
end

end K15
end
section
set_option maxHeartbeats 4000000
set_option exponentiation.threshold 3000
namespace K15
open PySem PySem.Spec L2 DL
open PyProof.Rows hiding St
open Lean in
local macro_rules | `(tactic| push_cast [$ts,*]) => `(tactic| simp only [↓DL.r0, ↓DL.r1, ↓DL.r2, ↓DL.r3, ↓DL.r4, ↓DL.r5, ↓DL.r6, ↓DL.r7, ↓DL.r8, ↓DL.r9, ↓DL.r10, ↓DL.r11, ↓DL.r12, ↓DL.r13, ↓DL.r14, ↓DL.r15, ↓DL.r16, ↓DL.r17, ↓DL.r18, ↓DL.r19, ↓DL.r20, ↓DL.r21, ↓DL.r22, ↓DL.r23, ↓DL.r24, ↓DL.r25, ↓DL.r26, ↓DL.r27, ↓DL.r28, ↓DL.r29, DL.s0, DL.s1, DL.s2, DL.s3, DL.s4, DL.s5, DL.s6, DL.s7, DL.s8, DL.s9, DL.s10, DL.s11, DL.s12, DL.s13, DL.s14, DL.s15, DL.s16, DL.s17, DL.s18, DL.s19, DL.s20, DL.s21, DL.s22, DL.s23, DL.s24, DL.s25, DL.s26, DL.s27, DL.s28, DL.s29, DL.startD_cons, DL.startD_nil, DL.startD_zero, ↓DL.w_ok, ↓DL.w_some, ↓DL.w_somec, ↓DL.w_bind, ↓DL.w_opt, ↓DL.w_chg, ↓DL.w_kon, ↓DL.w_calm, ↓DL.w_b2, ↓DL.w_b2L, ↓DL.w_b1, ↓DL.wB_bl, ↓DL.w_asB, ↓DL.w_b2T, ↓DL.w_chE, ↓DL.w_chT, ↓DL.w_not, ↓DL.w_val, ↓DL.w_notE, ↓DL.w_ifE, ↓DL.w_ifL, ↓DL.w_andM, ↓DL.w_orM, ↓DL.w_andE, ↓DL.w_orE, ↓DL.w_nil, ↓DL.w_cons, ↓DL.w_tup, ↓DL.w_lst, ↓DL.w_frz, ↓DL.w_new, ↓DL.w_cel, ↓DL.w_cb, ↓DL.w_cbL, ↓DL.w_call, ↓DL.w_callL, ↓DL.w_ar0, ↓DL.w_ar1, ↓DL.w_ar2, ↓DL.w_ar3, ↓DL.w_ar4, ↓DL.w_ar5, ↓DL.w_ar6, ↓DL.w_noO, ↓DL.w_smO, ↓DL.w_sl, ↓DL.w_slL, ↓DL.w_rev, ↓DL.w_step, ↓DL.w_isi, ↓DL.w_sets, ↓DL.w_lrg, ↓DL.w_mth, ↓DL.w_mth0, ↓DL.w_itS, ↓DL.w_itR1, ↓DL.w_itR2, ↓DL.w_itR3, ↓DL.w_itZ, ↓DL.w_itN, ↓DL.w_lc, ↓DL.w_nx, ↓DL.w_rt, ↓DL.w_seq, ↓DL.w_set, ↓DL.wPar_2, ↓DL.w_par, ↓DL.w_aug, ↓DL.w_sto, ↓DL.w_exp, ↓DL.w_ret, ↓DL.w_retN, ↓DL.w_nxS, ↓DL.w_ifS, ↓DL.w_for, ↓DL.w_asg, ↓DL.w_stk, ↓DL.w_body, ↓DL.w_bodyL, ↓DL.wret_non, ↓DL.wret_bl, ↓DL.wret_int, ↓DL.wret_str, ↓DL.wif_t, ↓DL.wif_f, ↓DL.wif_d, ↓DL.wif_n, ↓DL.wif_a, ↓DL.wif_o, DL.few0, DL.few1, DL.few2, DL.few3, DL.few4, DL.few5, DL.few6, DL.few7, DL.few8, DL.few9, DL.few10, true_and, and_true, ↓DL.a_nm, ↓DL.a_tp1, ↓DL.a_tp2, ↓DL.a_tp3, ↓DL.a_tp4, ↓DL.a_tp5, ↓DL.a_tpn, ↓DL.a_tpm, ↓DL.a_encP, DL.wipe_nil, DL.wipe_cons, DL.o_add, DL.o_sub, DL.o_neg, ↓DL.o_mul, ↓DL.o_div, ↓DL.o_mod, DL.o_pow, ↓DL.o_p10_3, ↓DL.o_p10_4, ↓DL.o_p10_6, ↓DL.o_p10_8, ↓DL.o_p10_9, ↓DL.o_p10_12, ↓DL.o_p10_15, ↓DL.o_p10_18, ↓DL.o_p10_20, ↓DL.o_p10_25, ↓DL.o_p10_26, ↓DL.o_p10_27, ↓DL.o_p10_28, ↓DL.o_p10_29, ↓DL.o_p10_30, ↓DL.o_p10_31, ↓DL.o_p10_36, ↓DL.o_p10_38, ↓DL.o_p10_40, ↓DL.o_p10_42, ↓DL.o_p10_44, ↓DL.o_p10_46, ↓DL.o_p10_48, ↓DL.o_p10_50, ↓DL.o_p10_60, ↓DL.o_p10_64, ↓DL.o_p10_70, ↓DL.o_p10_90, ↓DL.o_p10_99, ↓DL.o_p10_100, ↓DL.o_addS, ↓DL.o_addT, ↓DL.o_catL, ↓DL.o_addL, DL.o_lt, DL.o_le, DL.o_gt, DL.o_ge, DL.o_eqI, DL.o_neI, DL.o_eqS, DL.o_neS, DL.o_is, DL.o_isn, DL.n_non, DL.n_bl, DL.n_int, DL.n_str, DL.n_lst, DL.n_tup, DL.n_ref, DL.n_obj, DL.i_non_int, DL.i_non_bool, DL.i_non_str, DL.i_non_list, DL.i_non_tuple, DL.i_bl_int, DL.i_bl_bool, DL.i_bl_str, DL.i_bl_list, DL.i_bl_tuple, DL.i_int_int, DL.i_int_bool, DL.i_int_str, DL.i_int_list, DL.i_int_tuple, DL.i_str_int, DL.i_str_bool, DL.i_str_str, DL.i_str_list, DL.i_str_tuple, DL.i_lst_int, DL.i_lst_bool, DL.i_lst_str, DL.i_lst_list, DL.i_lst_tuple, DL.i_tup_int, DL.i_tup_bool, DL.i_tup_str, DL.i_tup_list, DL.i_tup_tuple, DL.t_non, DL.t_bl, DL.t_int, DL.t_lst, DL.t_tup, ↓DL.x_lst, ↓DL.x_tup, ↓DL.x_encP0, ↓DL.x_encP1, DL.ixn1_0, DL.ixn1_m1, DL.ixn2_0, DL.ixn2_1, DL.ixn2_m1, DL.ixn3_0, DL.ixn3_1, DL.ixn3_2, DL.ixn3_m1, DL.ixn4_0, DL.ixn4_1, DL.ixn4_2, DL.ixn4_3, DL.ixn4_m1, DL.ixn5_0, DL.ixn5_1, DL.ixn5_2, DL.ixn5_3, DL.ixn5_4, DL.ixn5_m1, DL.ixn6_0, DL.ixn6_1, DL.ixn6_2, DL.ixn6_3, DL.ixn6_4, DL.ixn6_5, DL.ixn6_m1, DL.ixn7_0, DL.ixn7_1, DL.ixn7_2, DL.ixn7_3, DL.ixn7_4, DL.ixn7_5, DL.ixn7_6, DL.ixn7_m1, DL.ixn8_0, DL.ixn8_1, DL.ixn8_2, DL.ixn8_3, DL.ixn8_4, DL.ixn8_5, DL.ixn8_6, DL.ixn8_7, DL.ixn8_m1, ↓DL.x1_0, ↓DL.x1_m1, ↓DL.x2_0, ↓DL.x2_1, ↓DL.x2_m1, ↓DL.x3_0, ↓DL.x3_1, ↓DL.x3_2, ↓DL.x3_m1, ↓DL.x4_0, ↓DL.x4_1, ↓DL.x4_2, ↓DL.x4_3, ↓DL.x4_m1, ↓DL.x5_0, ↓DL.x5_1, ↓DL.x5_2, ↓DL.x5_3, ↓DL.x5_4, ↓DL.x5_m1, ↓DL.x6_0, ↓DL.x6_1, ↓DL.x6_2, ↓DL.x6_3, ↓DL.x6_4, ↓DL.x6_5, ↓DL.x6_m1, ↓DL.x7_0, ↓DL.x7_1, ↓DL.x7_2, ↓DL.x7_3, ↓DL.x7_4, ↓DL.x7_5, ↓DL.x7_6, ↓DL.x7_m1, ↓DL.x8_0, ↓DL.x8_1, ↓DL.x8_2, ↓DL.x8_3, ↓DL.x8_4, ↓DL.x8_5, ↓DL.x8_6, ↓DL.x8_7, ↓DL.x8_m1, DL.c_abs, DL.c_max2, DL.c_min2, DL.c_int, DL.c_intb, DL.c_lenS, DL.c_lenT, DL.c_lenL, DL.c_listT, DL.c_listL, DL.c_tupT, DL.c_tupL, DL.c_sum, DL.c_sum0, DL.c_all, DL.c_any, DL.c_minP, DL.c_maxP, DL.c_sortP, DL.c_zip, DL.c_enum, DL.c_range1, DL.c_range2, DL.g_lst, DL.g_tup, DL.g_str, DL.p_int, DL.sq_lst, DL.sl_lst, DL.sl_tup, DL.sl_str, DL.slL_lst, DL.om_some, List.set_cons_zero, List.set_cons_succ, DL.m_tyL, DL.m_tyS, DL.m_ty, DL.m_app, DL.m_sto, DL.m_fzL, DL.m_fzI, DL.m_fzT, DL.m_fz, DL.x_ref, DL.c_lenR, DL.c_listR, DL.c_tupR, DL.sl_ref, DL.atL_new, DL.atL_new1, DL.atL_new2, DL.atL_old, DL.set_new, DL.set_new1, DL.set_new2, DL.set_old, DL.take_app, DL.app_app, DL.cons_app, DL.nil_app, DL.len_app1, DL.len_app2, DL.len_app3, DL.len_set, DL.seq_new, DL.seq_new1, DL.seq_new2, DL.seq_old, DL.ex_some, DL.fl_non, DL.fl_int, DL.fl_bl, DL.fl_str, DL.fl_tup, DL.fl_lst, DL.fl_obj, DL.fl_nil, DL.fl_cons, DL.fl_app, DL.fl_encP, Bool.and_self, Bool.and_true, Bool.true_and, List.set_set, ↓DL.w_yes, ↓DL.w_fld, ↓DL.w_mt, ↓DL.w_mtL, ↓DL.w_mt0, ↓DL.w_mt0L, ↓DL.w_ic, DL.isO_obj, ↓DL.w_make, ↓DL.w_b2M, ↓DL.w_b2MT, ↓DL.w_uM, ↓DL.w_inv, ↓DL.w_bin_obj, ↓DL.w_bin_int, ↓DL.w_fldS, DL.m_fld, DL.atI_new, DL.putD, ↓DL.w_repL, ↓DL.w_isiC, ↓DL.w_par3, ↓DL.wPar3_3, DL.m_count, DL.wretL_new, DL.wret_new, ↓DL.c_setSort, List.take_length, List.length_cons, List.length_nil, List.length_map, Int.cast_ofNat_Int, Bool.not_true, Bool.not_false, Int.reduceAdd, Int.reduceSub, Int.reduceMul, Int.reduceNeg, Int.reduceEq, Int.reduceLT, Int.reduceLE, Nat.reduceAdd, Nat.reduceSub, eq_self, not_true_eq_false, not_false_eq_true, false_implies, implies_true, true_implies, $ts,*])
open Lean in
local macro_rules | `(tactic| push_cast) => `(tactic| simp only [↓DL.r0, ↓DL.r1, ↓DL.r2, ↓DL.r3, ↓DL.r4, ↓DL.r5, ↓DL.r6, ↓DL.r7, ↓DL.r8, ↓DL.r9, ↓DL.r10, ↓DL.r11, ↓DL.r12, ↓DL.r13, ↓DL.r14, ↓DL.r15, ↓DL.r16, ↓DL.r17, ↓DL.r18, ↓DL.r19, ↓DL.r20, ↓DL.r21, ↓DL.r22, ↓DL.r23, ↓DL.r24, ↓DL.r25, ↓DL.r26, ↓DL.r27, ↓DL.r28, ↓DL.r29, DL.s0, DL.s1, DL.s2, DL.s3, DL.s4, DL.s5, DL.s6, DL.s7, DL.s8, DL.s9, DL.s10, DL.s11, DL.s12, DL.s13, DL.s14, DL.s15, DL.s16, DL.s17, DL.s18, DL.s19, DL.s20, DL.s21, DL.s22, DL.s23, DL.s24, DL.s25, DL.s26, DL.s27, DL.s28, DL.s29, DL.startD_cons, DL.startD_nil, DL.startD_zero, ↓DL.w_ok, ↓DL.w_some, ↓DL.w_somec, ↓DL.w_bind, ↓DL.w_opt, ↓DL.w_chg, ↓DL.w_kon, ↓DL.w_calm, ↓DL.w_b2, ↓DL.w_b2L, ↓DL.w_b1, ↓DL.wB_bl, ↓DL.w_asB, ↓DL.w_b2T, ↓DL.w_chE, ↓DL.w_chT, ↓DL.w_not, ↓DL.w_val, ↓DL.w_notE, ↓DL.w_ifE, ↓DL.w_ifL, ↓DL.w_andM, ↓DL.w_orM, ↓DL.w_andE, ↓DL.w_orE, ↓DL.w_nil, ↓DL.w_cons, ↓DL.w_tup, ↓DL.w_lst, ↓DL.w_frz, ↓DL.w_new, ↓DL.w_cel, ↓DL.w_cb, ↓DL.w_cbL, ↓DL.w_call, ↓DL.w_callL, ↓DL.w_ar0, ↓DL.w_ar1, ↓DL.w_ar2, ↓DL.w_ar3, ↓DL.w_ar4, ↓DL.w_ar5, ↓DL.w_ar6, ↓DL.w_noO, ↓DL.w_smO, ↓DL.w_sl, ↓DL.w_slL, ↓DL.w_rev, ↓DL.w_step, ↓DL.w_isi, ↓DL.w_sets, ↓DL.w_lrg, ↓DL.w_mth, ↓DL.w_mth0, ↓DL.w_itS, ↓DL.w_itR1, ↓DL.w_itR2, ↓DL.w_itR3, ↓DL.w_itZ, ↓DL.w_itN, ↓DL.w_lc, ↓DL.w_nx, ↓DL.w_rt, ↓DL.w_seq, ↓DL.w_set, ↓DL.wPar_2, ↓DL.w_par, ↓DL.w_aug, ↓DL.w_sto, ↓DL.w_exp, ↓DL.w_ret, ↓DL.w_retN, ↓DL.w_nxS, ↓DL.w_ifS, ↓DL.w_for, ↓DL.w_asg, ↓DL.w_stk, ↓DL.w_body, ↓DL.w_bodyL, ↓DL.wret_non, ↓DL.wret_bl, ↓DL.wret_int, ↓DL.wret_str, ↓DL.wif_t, ↓DL.wif_f, ↓DL.wif_d, ↓DL.wif_n, ↓DL.wif_a, ↓DL.wif_o, DL.few0, DL.few1, DL.few2, DL.few3, DL.few4, DL.few5, DL.few6, DL.few7, DL.few8, DL.few9, DL.few10, true_and, and_true, ↓DL.a_nm, ↓DL.a_tp1, ↓DL.a_tp2, ↓DL.a_tp3, ↓DL.a_tp4, ↓DL.a_tp5, ↓DL.a_tpn, ↓DL.a_tpm, ↓DL.a_encP, DL.wipe_nil, DL.wipe_cons, DL.o_add, DL.o_sub, DL.o_neg, ↓DL.o_mul, ↓DL.o_div, ↓DL.o_mod, DL.o_pow, ↓DL.o_p10_3, ↓DL.o_p10_4, ↓DL.o_p10_6, ↓DL.o_p10_8, ↓DL.o_p10_9, ↓DL.o_p10_12, ↓DL.o_p10_15, ↓DL.o_p10_18, ↓DL.o_p10_20, ↓DL.o_p10_25, ↓DL.o_p10_26, ↓DL.o_p10_27, ↓DL.o_p10_28, ↓DL.o_p10_29, ↓DL.o_p10_30, ↓DL.o_p10_31, ↓DL.o_p10_36, ↓DL.o_p10_38, ↓DL.o_p10_40, ↓DL.o_p10_42, ↓DL.o_p10_44, ↓DL.o_p10_46, ↓DL.o_p10_48, ↓DL.o_p10_50, ↓DL.o_p10_60, ↓DL.o_p10_64, ↓DL.o_p10_70, ↓DL.o_p10_90, ↓DL.o_p10_99, ↓DL.o_p10_100, ↓DL.o_addS, ↓DL.o_addT, ↓DL.o_catL, ↓DL.o_addL, DL.o_lt, DL.o_le, DL.o_gt, DL.o_ge, DL.o_eqI, DL.o_neI, DL.o_eqS, DL.o_neS, DL.o_is, DL.o_isn, DL.n_non, DL.n_bl, DL.n_int, DL.n_str, DL.n_lst, DL.n_tup, DL.n_ref, DL.n_obj, DL.i_non_int, DL.i_non_bool, DL.i_non_str, DL.i_non_list, DL.i_non_tuple, DL.i_bl_int, DL.i_bl_bool, DL.i_bl_str, DL.i_bl_list, DL.i_bl_tuple, DL.i_int_int, DL.i_int_bool, DL.i_int_str, DL.i_int_list, DL.i_int_tuple, DL.i_str_int, DL.i_str_bool, DL.i_str_str, DL.i_str_list, DL.i_str_tuple, DL.i_lst_int, DL.i_lst_bool, DL.i_lst_str, DL.i_lst_list, DL.i_lst_tuple, DL.i_tup_int, DL.i_tup_bool, DL.i_tup_str, DL.i_tup_list, DL.i_tup_tuple, DL.t_non, DL.t_bl, DL.t_int, DL.t_lst, DL.t_tup, ↓DL.x_lst, ↓DL.x_tup, ↓DL.x_encP0, ↓DL.x_encP1, DL.ixn1_0, DL.ixn1_m1, DL.ixn2_0, DL.ixn2_1, DL.ixn2_m1, DL.ixn3_0, DL.ixn3_1, DL.ixn3_2, DL.ixn3_m1, DL.ixn4_0, DL.ixn4_1, DL.ixn4_2, DL.ixn4_3, DL.ixn4_m1, DL.ixn5_0, DL.ixn5_1, DL.ixn5_2, DL.ixn5_3, DL.ixn5_4, DL.ixn5_m1, DL.ixn6_0, DL.ixn6_1, DL.ixn6_2, DL.ixn6_3, DL.ixn6_4, DL.ixn6_5, DL.ixn6_m1, DL.ixn7_0, DL.ixn7_1, DL.ixn7_2, DL.ixn7_3, DL.ixn7_4, DL.ixn7_5, DL.ixn7_6, DL.ixn7_m1, DL.ixn8_0, DL.ixn8_1, DL.ixn8_2, DL.ixn8_3, DL.ixn8_4, DL.ixn8_5, DL.ixn8_6, DL.ixn8_7, DL.ixn8_m1, ↓DL.x1_0, ↓DL.x1_m1, ↓DL.x2_0, ↓DL.x2_1, ↓DL.x2_m1, ↓DL.x3_0, ↓DL.x3_1, ↓DL.x3_2, ↓DL.x3_m1, ↓DL.x4_0, ↓DL.x4_1, ↓DL.x4_2, ↓DL.x4_3, ↓DL.x4_m1, ↓DL.x5_0, ↓DL.x5_1, ↓DL.x5_2, ↓DL.x5_3, ↓DL.x5_4, ↓DL.x5_m1, ↓DL.x6_0, ↓DL.x6_1, ↓DL.x6_2, ↓DL.x6_3, ↓DL.x6_4, ↓DL.x6_5, ↓DL.x6_m1, ↓DL.x7_0, ↓DL.x7_1, ↓DL.x7_2, ↓DL.x7_3, ↓DL.x7_4, ↓DL.x7_5, ↓DL.x7_6, ↓DL.x7_m1, ↓DL.x8_0, ↓DL.x8_1, ↓DL.x8_2, ↓DL.x8_3, ↓DL.x8_4, ↓DL.x8_5, ↓DL.x8_6, ↓DL.x8_7, ↓DL.x8_m1, DL.c_abs, DL.c_max2, DL.c_min2, DL.c_int, DL.c_intb, DL.c_lenS, DL.c_lenT, DL.c_lenL, DL.c_listT, DL.c_listL, DL.c_tupT, DL.c_tupL, DL.c_sum, DL.c_sum0, DL.c_all, DL.c_any, DL.c_minP, DL.c_maxP, DL.c_sortP, DL.c_zip, DL.c_enum, DL.c_range1, DL.c_range2, DL.g_lst, DL.g_tup, DL.g_str, DL.p_int, DL.sq_lst, DL.sl_lst, DL.sl_tup, DL.sl_str, DL.slL_lst, DL.om_some, List.set_cons_zero, List.set_cons_succ, DL.m_tyL, DL.m_tyS, DL.m_ty, DL.m_app, DL.m_sto, DL.m_fzL, DL.m_fzI, DL.m_fzT, DL.m_fz, DL.x_ref, DL.c_lenR, DL.c_listR, DL.c_tupR, DL.sl_ref, DL.atL_new, DL.atL_new1, DL.atL_new2, DL.atL_old, DL.set_new, DL.set_new1, DL.set_new2, DL.set_old, DL.take_app, DL.app_app, DL.cons_app, DL.nil_app, DL.len_app1, DL.len_app2, DL.len_app3, DL.len_set, DL.seq_new, DL.seq_new1, DL.seq_new2, DL.seq_old, DL.ex_some, DL.fl_non, DL.fl_int, DL.fl_bl, DL.fl_str, DL.fl_tup, DL.fl_lst, DL.fl_obj, DL.fl_nil, DL.fl_cons, DL.fl_app, DL.fl_encP, Bool.and_self, Bool.and_true, Bool.true_and, List.set_set, ↓DL.w_yes, ↓DL.w_fld, ↓DL.w_mt, ↓DL.w_mtL, ↓DL.w_mt0, ↓DL.w_mt0L, ↓DL.w_ic, DL.isO_obj, ↓DL.w_make, ↓DL.w_b2M, ↓DL.w_b2MT, ↓DL.w_uM, ↓DL.w_inv, ↓DL.w_bin_obj, ↓DL.w_bin_int, ↓DL.w_fldS, DL.m_fld, DL.atI_new, DL.putD, ↓DL.w_repL, ↓DL.w_isiC, ↓DL.w_par3, ↓DL.wPar3_3, DL.m_count, DL.wretL_new, DL.wret_new, ↓DL.c_setSort, List.take_length, List.length_cons, List.length_nil, List.length_map, Int.cast_ofNat_Int, Bool.not_true, Bool.not_false, Int.reduceAdd, Int.reduceSub, Int.reduceMul, Int.reduceNeg, Int.reduceEq, Int.reduceLT, Int.reduceLE, Nat.reduceAdd, Nat.reduceSub, eq_self, not_true_eq_false, not_false_eq_true, false_implies, implies_true, true_implies])
/-! k15: what is due -/
section
variable {S R : Cells} {E : Xc → Cells → Prop} {Q : D → Cells → Prop} {QL : List D → Cells → Prop}
theorem PG.fin {F : List MP.T} {b t : Int} {n : Nat} (ha : MP.Asc 1 F) (h : ∀ p ∈ F, p.2.1 ≤ b ∧ p.2.2 ≤ t) (hb : b ≤ 10 ^ 50) (ht : 0 ≤ t) (hn : F.length ≤ n) : PG (2 * n) t (MP.fin F) ∧ ∀ d, MP.cnt (MP.fin F) d = MP.cnt F d := by
  obtain ⟨h1, h2⟩ := MP.fin_ok (l := F) fun p hp => by have := ha.mem p hp; omega
  refine ⟨⟨h1, ?_, fun p hp => ?_, fun p hp => ?_, ht⟩, h2⟩
  · have := MP.fin_len F; omega
  · have := MP.fin_bound ha h p hp; omega
  · have := MP.fin_bound ha h p hp; omega
theorem sc_mem {m : Int} {J : List MP.T} {p : MP.T} (h : p ∈ MP.sc m J) : 0 < m ∧ ∃ q ∈ J, p = (q.1, q.2.1, m * q.2.2) := by
  unfold MP.sc at h
  split at h
  · rename_i hm
    obtain ⟨q, hq, e⟩ := List.mem_map.mp h
    exact ⟨hm, q, hq, e.symm⟩
  · cases h
theorem mul_le {a b x y : Int} (ha : 0 ≤ a) (h1 : a ≤ x) (hb : 0 ≤ b) (h2 : b ≤ y) : 0 ≤ a * b ∧ a * b ≤ x * y := ⟨Int.mul_nonneg ha hb, Int.mul_le_mul h1 h2 hb (by omega)⟩
theorem both_sc {m t b : Int} {F : List MP.T} (hm : 0 ≤ m ∧ m ≤ 10 ^ 30) (hF : MP.Asc 1 F) (hF0 : ∀ p ∈ F, p.2.1 ≤ b ∧ p.2.2 ≤ t) (hb : b ≤ 10 ^ 49) (ht : t ≤ 10 ^ 40) (hz : F.length ≤ 40) : ∀ S, g__law_both [.lst ((MP.sc m F).map encT), .lst []] S = .ok (.lst ((MP.sc m (MP.fin F)).map encT)) S := fun S => by
  have pF := pos_of (Int.le_refl 1) hF
  have pS : ∀ p ∈ MP.sc m F ++ [], 1 ≤ p.1 ∧ p.1 ≤ p.2.1 ∧ 0 ≤ p.2.2 := fun p hp => by
    rw [List.append_nil] at hp
    obtain ⟨h1, q, hq, rfl⟩ := sc_mem hp
    have := pF q hq
    exact ⟨this.1, this.2.1, Int.mul_nonneg hm.1 this.2.2⟩
  have := both_ok (S := S) (F := MP.sc m F) (G := []) pS (by have := MP.len_sc (t := m) (J := F); simp only [List.length_nil]; omega) fun p hp => by
    rw [List.append_nil] at hp
    obtain ⟨h1, q, hq, rfl⟩ := sc_mem hp
    have h2 := pF q hq
    have h3 := hF0 q hq
    have h4 := mul_le hm.1 hm.2 h2.2.2 (show q.2.2 ≤ 10 ^ 40 by omega)
    show q.2.1 < _ ∧ m * q.2.2 < _
    omega
  rw [← MP.canon_fin (R := MP.sc m (MP.fin F)) pS (MP.canon_sc (MP.fin_ok pF).1) fun d => by rw [List.append_nil, MP.cnt_sc hm.1, MP.cnt_sc hm.1, (MP.fin_ok pF).2]] at this
  exact this
theorem right_wp {n k : Nat} {F G : List MP.T} {w c b t : Int} (h : Pond S n k) (hk : k ≤ 10 ^ 10) (hc : 0 ≤ c) (hc2 : c ≤ 10 ^ 32) (hw : 1 ≤ w) (hw2 : w ≤ 10 ^ 31) (hF : MP.Asc 1 F) (hF0 : ∀ p ∈ F, p.2.1 ≤ b ∧ p.2.2 ≤ t) (hG : MP.Asc 1 G) (hG0 : ∀ p ∈ G, p.2.1 ≤ b ∧ p.2.2 ≤ t) (hb : b ≤ 10 ^ 49) (ht0 : 0 ≤ t) (ht : t ≤ 10 ^ 40) (hz : F.length ≤ 40) (hz2 : G.length ≤ 40)
    (q : ∀ S', Pond S' n (k + 101) → Fr S S' n → Q (.bl true) S') : wp (g__law_right [.ref n, .int c, .lst (F.map encT), .lst (G.map encT), .int w] S) Q E := by
  have zz := z24
  obtain ⟨g1, c1⟩ := PG.fin hF hF0 (by omega) ht0 hz
  obtain ⟨g2, c2⟩ := PG.fin hG hG0 (by omega) ht0 hz2
  have pF := pos_of (Int.le_refl 1) hF
  have pG := pos_of (Int.le_refl 1) hG
  have hmk1 : ∀ S, makeD NMf 0 3 g_Profile___init__ [.int c, .lst (F.map encT)] S = .ok (prof c (MP.fin F)) S := fun S => make_ok hc hF (by omega)
  have hmk2 : ∀ {l : Int}, 0 ≤ l → ∀ S, makeD NMf 0 3 g_Profile___init__ [.int l, .lst (G.map encT)] S = .ok (prof l (MP.fin G)) S := fun hl S => make_ok hl hG (by omega)
  have hFG : ∀ S, g__law_both [.lst (F.map encT), .lst (G.map encT)] S = .ok (.lst ((MP.fin (F ++ G)).map encT)) S := fun S => both_ok (pos_app pF pG) (by omega) fun p hp => by
    rcases List.mem_append.mp hp with h | h
    · have := hF0 p h; omega
    · have := hG0 p h; omega
  obtain ⟨f12, c12⟩ := MP.fin_ok (pos_app pF pG)
  have c12 : ∀ d, MP.cnt (MP.fin (F ++ G)) d = MP.cnt (MP.fin F) d + MP.cnt (MP.fin G) d := fun d => by rw [c12, MP.cnt_app, c1, c2]
  have g12 : PG 320 (t + t) (MP.fin (F ++ G)) := by
    have := (g1.add g2).1
    rwa [(g1.add g2).1.same f12 fun d => by rw [c12, (g1.add g2).2]]
  push_cast [g__law_right, B__law_right]
  refine dip_wp0 h (by omega) (by omega) (by omega) fun v S1 v0 v1 hp hf1 => ?_
  have hf := hf1
  obtain ⟨X1, k1, r1, s1⟩ := shown_ok (c := c) g1 ⟨hc, by omega⟩ (by omega) (by decide)
  obtain ⟨X2, k2, r2, s2⟩ := shown_ok (c := v) g2 ⟨v0, by omega⟩ (by omega) (by decide)
  obtain ⟨X3, k3, r3, s3⟩ := shown_ok (c := c + v) g12 ⟨by omega, by omega⟩ (by omega) (by decide)
  obtain ⟨X4, k4, r4, s4⟩ := shown_ok (c := c * 2) (g1.sc (m := 2) (by decide)) ⟨by omega, by omega⟩ (by omega) (by decide)
  push_cast [hmk1, hmk2 v0, s1, s2, addO (c := c + v) g1 g2 hc v0 (by decide) rfl f12 c12, isi_prof, s3, r3, hFG,
    addO (c := c + v) g2 g1 v0 hc (by decide) (Int.add_comm _ _) f12 (fun d => by rw [c12, Int.add_comm]), eqO g12 (by omega),
    addO (c := c * 2) g1 g1 hc hc (by decide) (by omega) (g1.sc (m := 2) (by decide)).can (fun d => by rw [MP.cnt_sc (by decide)]; omega), mulO (c := c * 2) g1 ⟨hc, by omega⟩ ⟨by decide, by decide⟩ (by omega) (by decide) rfl (g1.sc (m := 2) (by decide)).can (fun d => MP.cnt_sc (by decide) _ _), s4, decide_true]
  refine dip_wp0 hp (by omega) (by decide) (by decide) fun u S2 u0 u1 hp hf2 => ?_
  have hf := hf1.trans hf2
  push_cast
  refine for_wp D.int (fun r ρ S3 => S3 = S2 ∧ (∀ m ∈ r, 0 ≤ m ∧ m ≤ 10 ^ 30) ∧ ∃ x10 x11, ρ = [some (.ref n), some (.int c), some (.lst (F.map encT)), some (.lst (G.map encT)), some (.int w), some (.int v), some (prof c (MP.fin F)), some (prof v (MP.fin G)), some (.lst [.str X1, .str X2]), some (prof (c + v) (MP.fin (F ++ G))), x10, x11, none, none, none, none]) ?_ ?_ [0, 1, 2, u, 1000000000000000000000000000000] _ _ ⟨rfl, fun m hm => ?_, _, _, rfl⟩
  rotate_left
  · rintro ρ S3 ⟨rfl, _, x10, x11, rfl⟩
    push_cast
    refine dip_wp0 hp (by omega) (by decide) (by decide) fun y1 S4 _ _ hp hf4 => ?_
    have hf := hf.trans hf4
    push_cast
    refine dip_wp0 hp (by omega) (by decide) (by decide) fun y2 S5 _ _ hp hf5 => ?_
    have hf := hf.trans hf5
    push_cast
    refine dip_wp0 hp (by omega) (by decide) (by decide) fun y3 S6 z0 z1 hp hf6 => ?_
    have hf := hf.trans hf6
    push_cast
    refine at_int2 z0 z1 fun m hm => ?_
    have hm : 0 ≤ m ∧ m ≤ 10 ^ 30 - 7 := by omega
    have m1 := mul_le hc hc2 hm.1 hm.2
    have m2 := mul_le hm.1 hm.2 ht0 ht
    have m3 := mul_le v0 (show v ≤ 10 ^ 32 by omega) hm.1 hm.2
    have m4 := mul_le hm.1 hm.2 (show 0 ≤ t + t by omega) (show t + t ≤ 10 ^ 41 by omega)
    have m5 : c * (m + 7) = c * m + c * 7 := Int.mul_add _ _ _
    have m6 : (c + v) * m = c * m + v * m := Int.add_mul _ _ _
    have m7 : (m + 7) * t = m * t + 7 * t := Int.add_mul _ _ _
    have hm7 : 0 ≤ m + 7 ∧ m + 7 ≤ 10 ^ 30 := by omega
    have g0 : PG 0 0 [] := ⟨trivial, Nat.le_refl _, fun p hp => by simp at hp, fun p hp => by simp at hp, Int.le_refl _⟩
    have g3 := g12.add g1
    have hmk0 : ∀ S, makeD NMf 0 3 g_Profile___init__ [.int 0, .lst []] S = .ok (prof 0 []) S := fun S => by
      have := make_ok (S := S) (c := 0) (l := []) (by decide) trivial (by decide)
      rwa [MP.fin_canon (l := []) trivial] at this
    have hne : ∀ S, dNe (.lst (F.map encT)) (.lst []) S = some (.bl (!(F.map encT).isEmpty)) := fun S => dNe_nil (gd_pieces fun p hp => by
      have := pF p hp
      have := hF0 p hp
      omega)
    push_cast [mulO (c := c * m) g1 ⟨hc, by omega⟩ ⟨hm.1, by omega⟩ (by omega) (by decide) rfl (g1.sc hm.1).can (fun d => MP.cnt_sc hm.1 _ _),
      mulO (c := c * 7) g1 ⟨hc, by omega⟩ ⟨by decide, by decide⟩ (by omega) (by decide) rfl (g1.sc (m := 7) (by decide)).can (fun d => MP.cnt_sc (by decide) _ _),
      mulO (c := c * (m + 7)) g1 ⟨hc, by omega⟩ hm7 (by omega) (by decide) rfl (g1.sc hm7.1).can (fun d => MP.cnt_sc hm7.1 _ _),
      addO (c := c * (m + 7)) (g1.sc hm.1) (g1.sc (m := 7) (by decide)) m1.1 (by omega) (by decide) m5 (g1.sc hm7.1).can (fun d => by rw [MP.cnt_sc hm.1, MP.cnt_sc hm7.1, MP.cnt_sc (by decide), Int.add_mul]),
      eqO (c := c * (m + 7)) (g1.sc hm7.1) (by omega),
      mulO (c := (c + v) * m) g12 ⟨by omega, by omega⟩ ⟨hm.1, by omega⟩ (by omega) (by decide) rfl (g12.sc hm.1).can (fun d => MP.cnt_sc hm.1 _ _),
      mulO (c := v * m) g2 ⟨v0, by omega⟩ ⟨hm.1, by omega⟩ (by omega) (by decide) rfl (g2.sc hm.1).can (fun d => MP.cnt_sc hm.1 _ _),
      addO (c := (c + v) * m) (g1.sc hm.1) (g2.sc hm.1) m1.1 m3.1 (by decide) m6 (g12.sc hm.1).can (fun d => by rw [MP.cnt_sc hm.1, MP.cnt_sc hm.1, MP.cnt_sc hm.1, c12, Int.mul_add]),
      eqO (c := (c + v) * m) (g12.sc hm.1) (by omega),
      addO (c := c + v) g1 g2 hc v0 (by decide) rfl f12 c12,
      addO (c := c + v) g2 g1 v0 hc (by decide) (Int.add_comm _ _) f12 (fun d => by rw [c12, Int.add_comm]),
      addO (c := c + v + c) (a := c + v) g12 g1 (by omega) hc (by decide) rfl g3.1.can g3.2,
      addO (c := c + v + c) (b := c + v) g1 g12 hc (by omega) (by decide) (by omega) g3.1.can (fun d => by rw [g3.2, Int.add_comm]),
      eqO (c := c + v + c) g3.1 (by omega), hmk0,
      addO (c := c) (b := 0) g1 g0 hc (by decide) (by decide) (by omega) g1.can (fun d => by rw [MP.cnt_nil, Int.add_zero]), eqO (c := c) g1 (by omega), hne]
    by_cases eF : F = []
    · have e0 : (F.map encT).isEmpty = true := by rw [eF]; rfl
      push_cast [e0, s1, s2, eq_strs k1 k2]
      rw [← hf.len, List.take_length]
      exact q _ (hp.mono (by omega)) hf
    · have e0 : (F.map encT).isEmpty = false := by
        cases F with
        | nil => exact absurd rfl eF
        | cons p F => rfl
      have hl : 0 < F.length := List.length_pos_iff.mpr eF
      push_cast [e0]
      refine dip_wp0 hp (by omega) (by omega) (by omega) fun i S7 i0 i1 hp hf7 => ?_
      have hf := hf.trans hf7
      obtain ⟨p, hpe⟩ : ∃ p, F[i.toNat]? = some p := ⟨_, List.getElem?_eq_getElem (by omega)⟩
      have hpm := List.mem_of_getElem? hpe
      have pp := hF.mem p hpm
      have pp0 := hF0 p hpm
      push_cast [wAt_map (enc := encT) (k := i) (n := i.toNat) (by omega) hpe]
      push_cast [encT]
      refine dip_wp0 hp (by omega) (by omega) (by omega) fun j S8 j0 j1 hp hf8 => ?_
      have hf := hf.trans hf8
      have wc : MP.Canon 1 [(p.2.1 + 1, p.2.1 + 1 + j, p.2.2)] := ⟨by show 1 ≤ p.2.1 + 1; omega, by show p.2.1 + 1 ≤ p.2.1 + 1 + j; omega, pp.2.2, fun s q => by simp at q, trivial⟩
      have gw : PG 1 t [(p.2.1 + 1, p.2.1 + 1 + j, p.2.2)] := ⟨wc, Nat.le_refl _, fun x hx => by
        rw [List.mem_singleton] at hx
        subst hx
        show p.2.1 + 1 + j ≤ _
        omega, fun x hx => by
        rw [List.mem_singleton] at hx
        subst hx
        exact pp0.2, ht0⟩
      have hmkw : ∀ S, makeD NMf 0 3 g_Profile___init__ [.int 0, .lst [.tup [.int (p.2.1 + 1), .int (p.2.1 + 1 + j), .int p.2.2]]] S = .ok (prof 0 [(p.2.1 + 1, p.2.1 + 1 + j, p.2.2)]) S := fun S => by
        have := make_ok (S := S) (c := 0) (l := [(p.2.1 + 1, p.2.1 + 1 + j, p.2.2)]) (by decide) wc.asc (by simp)
        rwa [MP.fin_canon wc] at this
      have pW := pos_app pF gw.pos
      obtain ⟨fw, cw⟩ := MP.fin_ok pW
      have gW : PG 200 (t + t) (MP.fin (F ++ [(p.2.1 + 1, p.2.1 + 1 + j, p.2.2)])) := by
        have g := (g1.add gw).1
        rw [← g.same fw fun d => by rw [cw, (g1.add gw).2, MP.cnt_app, c1]] at g
        exact ⟨g.can, Nat.le_trans g.len (by decide), g.far, g.oft, g.nn⟩
      have hbw : ∀ S, g__law_both [.lst (F.map encT), .lst (List.map encT [(p.2.1 + 1, p.2.1 + 1 + j, p.2.2)])] S = .ok (.lst ((MP.fin (F ++ [(p.2.1 + 1, p.2.1 + 1 + j, p.2.2)])).map encT)) S := fun S => both_ok pW (by simp only [List.length_singleton]; omega) fun x hx => by
        rcases List.mem_append.mp hx with h | h
        · have := hF0 x h; omega
        · rw [List.mem_singleton] at h
          subst h
          show p.2.1 + 1 + j < _ ∧ p.2.2 < _
          omega
      obtain ⟨X5, k5, r5, s5⟩ := shown_ok (c := c) gW ⟨hc, by omega⟩ (by omega) (by decide)
      push_cast [hmkw, addO (c := c) (b := 0) g1 gw hc (by decide) (by decide) (by omega) fw (fun d => by rw [cw, MP.cnt_app, c1]), s5, isC_pieces, pieces_ok, hbw, r5, s1, s2, eq_strs k1 k2, decide_true]
      rw [← hf.len, List.take_length]
      exact q _ (hp.mono (by omega)) hf
  · simp only [List.mem_cons, List.not_mem_nil, or_false] at hm
    omega
  · rintro m r ρ S3 ⟨rfl, hr, x10, x11, rfl⟩
    have hm := hr m List.mem_cons_self
    have m1 := mul_le hc hc2 hm.1 hm.2
    have m2 := mul_le hm.1 hm.2 ht0 ht
    obtain ⟨X, kX, rX, sX⟩ := shown_ok (c := c * m) (g1.sc hm.1) ⟨m1.1, by omega⟩ (by omega) (by decide)
    push_cast [L1__law_right]
    refine comp_fil_wp encT (fun _ => decide (m > 0)) (fun p => encT (p.1, p.2.1, m * p.2.2)) F (fun p hp => ?_) ?_
    · unfold cStep
      push_cast [encT]
      have := pF p hp
      have := hF0 p hp
      exact ⟨fun q => ⟨mulB ⟨hm.1, by omega⟩ ⟨by omega, by omega⟩, by rw [decide_eq_true q]; rfl⟩, fun q => by rw [decide_eq_false q]; rfl⟩
    rw [sc_filter]
    push_cast [mulO (c := c * m) g1 ⟨hc, by omega⟩ hm (by omega) (by decide) rfl (g1.sc hm.1).can (fun d => MP.cnt_sc hm.1 _ _), sX, both_sc hm hF hF0 hb ht hz, Int.mul_comm m c, rX, decide_true]
    exact ⟨mulB ⟨hm.1, by omega⟩ ⟨hc, by omega⟩, fun x hx => hr x (List.mem_cons_of_mem _ hx), _, _, rfl⟩
end

end K15
end
section
set_option maxHeartbeats 4000000
set_option exponentiation.threshold 3000
namespace K15
open PySem PySem.Spec L2 DL
open PyProof.Rows hiding St
open Lean in
local macro_rules | `(tactic| push_cast [$ts,*]) => `(tactic| simp only [↓DL.r0, ↓DL.r1, ↓DL.r2, ↓DL.r3, ↓DL.r4, ↓DL.r5, ↓DL.r6, ↓DL.r7, ↓DL.r8, ↓DL.r9, ↓DL.r10, ↓DL.r11, ↓DL.r12, ↓DL.r13, ↓DL.r14, ↓DL.r15, ↓DL.r16, ↓DL.r17, ↓DL.r18, ↓DL.r19, ↓DL.r20, ↓DL.r21, ↓DL.r22, ↓DL.r23, ↓DL.r24, ↓DL.r25, ↓DL.r26, ↓DL.r27, ↓DL.r28, ↓DL.r29, DL.s0, DL.s1, DL.s2, DL.s3, DL.s4, DL.s5, DL.s6, DL.s7, DL.s8, DL.s9, DL.s10, DL.s11, DL.s12, DL.s13, DL.s14, DL.s15, DL.s16, DL.s17, DL.s18, DL.s19, DL.s20, DL.s21, DL.s22, DL.s23, DL.s24, DL.s25, DL.s26, DL.s27, DL.s28, DL.s29, DL.startD_cons, DL.startD_nil, DL.startD_zero, ↓DL.w_ok, ↓DL.w_some, ↓DL.w_somec, ↓DL.w_bind, ↓DL.w_opt, ↓DL.w_chg, ↓DL.w_kon, ↓DL.w_calm, ↓DL.w_b2, ↓DL.w_b2L, ↓DL.w_b1, ↓DL.wB_bl, ↓DL.w_asB, ↓DL.w_b2T, ↓DL.w_chE, ↓DL.w_chT, ↓DL.w_not, ↓DL.w_val, ↓DL.w_notE, ↓DL.w_ifE, ↓DL.w_ifL, ↓DL.w_andM, ↓DL.w_orM, ↓DL.w_andE, ↓DL.w_orE, ↓DL.w_nil, ↓DL.w_cons, ↓DL.w_tup, ↓DL.w_lst, ↓DL.w_frz, ↓DL.w_new, ↓DL.w_cel, ↓DL.w_cb, ↓DL.w_cbL, ↓DL.w_call, ↓DL.w_callL, ↓DL.w_ar0, ↓DL.w_ar1, ↓DL.w_ar2, ↓DL.w_ar3, ↓DL.w_ar4, ↓DL.w_ar5, ↓DL.w_ar6, ↓DL.w_noO, ↓DL.w_smO, ↓DL.w_sl, ↓DL.w_slL, ↓DL.w_rev, ↓DL.w_step, ↓DL.w_isi, ↓DL.w_sets, ↓DL.w_lrg, ↓DL.w_mth, ↓DL.w_mth0, ↓DL.w_itS, ↓DL.w_itR1, ↓DL.w_itR2, ↓DL.w_itR3, ↓DL.w_itZ, ↓DL.w_itN, ↓DL.w_lc, ↓DL.w_nx, ↓DL.w_rt, ↓DL.w_seq, ↓DL.w_set, ↓DL.wPar_2, ↓DL.w_par, ↓DL.w_aug, ↓DL.w_sto, ↓DL.w_exp, ↓DL.w_ret, ↓DL.w_retN, ↓DL.w_nxS, ↓DL.w_ifS, ↓DL.w_for, ↓DL.w_asg, ↓DL.w_stk, ↓DL.w_body, ↓DL.w_bodyL, ↓DL.wret_non, ↓DL.wret_bl, ↓DL.wret_int, ↓DL.wret_str, ↓DL.wif_t, ↓DL.wif_f, ↓DL.wif_d, ↓DL.wif_n, ↓DL.wif_a, ↓DL.wif_o, DL.few0, DL.few1, DL.few2, DL.few3, DL.few4, DL.few5, DL.few6, DL.few7, DL.few8, DL.few9, DL.few10, true_and, and_true, ↓DL.a_nm, ↓DL.a_tp1, ↓DL.a_tp2, ↓DL.a_tp3, ↓DL.a_tp4, ↓DL.a_tp5, ↓DL.a_tpn, ↓DL.a_tpm, ↓DL.a_encP, DL.wipe_nil, DL.wipe_cons, DL.o_add, DL.o_sub, DL.o_neg, ↓DL.o_mul, ↓DL.o_div, ↓DL.o_mod, DL.o_pow, ↓DL.o_p10_3, ↓DL.o_p10_4, ↓DL.o_p10_6, ↓DL.o_p10_8, ↓DL.o_p10_9, ↓DL.o_p10_12, ↓DL.o_p10_15, ↓DL.o_p10_18, ↓DL.o_p10_20, ↓DL.o_p10_25, ↓DL.o_p10_26, ↓DL.o_p10_27, ↓DL.o_p10_28, ↓DL.o_p10_29, ↓DL.o_p10_30, ↓DL.o_p10_31, ↓DL.o_p10_36, ↓DL.o_p10_38, ↓DL.o_p10_40, ↓DL.o_p10_42, ↓DL.o_p10_44, ↓DL.o_p10_46, ↓DL.o_p10_48, ↓DL.o_p10_50, ↓DL.o_p10_60, ↓DL.o_p10_64, ↓DL.o_p10_70, ↓DL.o_p10_90, ↓DL.o_p10_99, ↓DL.o_p10_100, ↓DL.o_addS, ↓DL.o_addT, ↓DL.o_catL, ↓DL.o_addL, DL.o_lt, DL.o_le, DL.o_gt, DL.o_ge, DL.o_eqI, DL.o_neI, DL.o_eqS, DL.o_neS, DL.o_is, DL.o_isn, DL.n_non, DL.n_bl, DL.n_int, DL.n_str, DL.n_lst, DL.n_tup, DL.n_ref, DL.n_obj, DL.i_non_int, DL.i_non_bool, DL.i_non_str, DL.i_non_list, DL.i_non_tuple, DL.i_bl_int, DL.i_bl_bool, DL.i_bl_str, DL.i_bl_list, DL.i_bl_tuple, DL.i_int_int, DL.i_int_bool, DL.i_int_str, DL.i_int_list, DL.i_int_tuple, DL.i_str_int, DL.i_str_bool, DL.i_str_str, DL.i_str_list, DL.i_str_tuple, DL.i_lst_int, DL.i_lst_bool, DL.i_lst_str, DL.i_lst_list, DL.i_lst_tuple, DL.i_tup_int, DL.i_tup_bool, DL.i_tup_str, DL.i_tup_list, DL.i_tup_tuple, DL.t_non, DL.t_bl, DL.t_int, DL.t_lst, DL.t_tup, ↓DL.x_lst, ↓DL.x_tup, ↓DL.x_encP0, ↓DL.x_encP1, DL.ixn1_0, DL.ixn1_m1, DL.ixn2_0, DL.ixn2_1, DL.ixn2_m1, DL.ixn3_0, DL.ixn3_1, DL.ixn3_2, DL.ixn3_m1, DL.ixn4_0, DL.ixn4_1, DL.ixn4_2, DL.ixn4_3, DL.ixn4_m1, DL.ixn5_0, DL.ixn5_1, DL.ixn5_2, DL.ixn5_3, DL.ixn5_4, DL.ixn5_m1, DL.ixn6_0, DL.ixn6_1, DL.ixn6_2, DL.ixn6_3, DL.ixn6_4, DL.ixn6_5, DL.ixn6_m1, DL.ixn7_0, DL.ixn7_1, DL.ixn7_2, DL.ixn7_3, DL.ixn7_4, DL.ixn7_5, DL.ixn7_6, DL.ixn7_m1, DL.ixn8_0, DL.ixn8_1, DL.ixn8_2, DL.ixn8_3, DL.ixn8_4, DL.ixn8_5, DL.ixn8_6, DL.ixn8_7, DL.ixn8_m1, ↓DL.x1_0, ↓DL.x1_m1, ↓DL.x2_0, ↓DL.x2_1, ↓DL.x2_m1, ↓DL.x3_0, ↓DL.x3_1, ↓DL.x3_2, ↓DL.x3_m1, ↓DL.x4_0, ↓DL.x4_1, ↓DL.x4_2, ↓DL.x4_3, ↓DL.x4_m1, ↓DL.x5_0, ↓DL.x5_1, ↓DL.x5_2, ↓DL.x5_3, ↓DL.x5_4, ↓DL.x5_m1, ↓DL.x6_0, ↓DL.x6_1, ↓DL.x6_2, ↓DL.x6_3, ↓DL.x6_4, ↓DL.x6_5, ↓DL.x6_m1, ↓DL.x7_0, ↓DL.x7_1, ↓DL.x7_2, ↓DL.x7_3, ↓DL.x7_4, ↓DL.x7_5, ↓DL.x7_6, ↓DL.x7_m1, ↓DL.x8_0, ↓DL.x8_1, ↓DL.x8_2, ↓DL.x8_3, ↓DL.x8_4, ↓DL.x8_5, ↓DL.x8_6, ↓DL.x8_7, ↓DL.x8_m1, DL.c_abs, DL.c_max2, DL.c_min2, DL.c_int, DL.c_intb, DL.c_lenS, DL.c_lenT, DL.c_lenL, DL.c_listT, DL.c_listL, DL.c_tupT, DL.c_tupL, DL.c_sum, DL.c_sum0, DL.c_all, DL.c_any, DL.c_minP, DL.c_maxP, DL.c_sortP, DL.c_zip, DL.c_enum, DL.c_range1, DL.c_range2, DL.g_lst, DL.g_tup, DL.g_str, DL.p_int, DL.sq_lst, DL.sl_lst, DL.sl_tup, DL.sl_str, DL.slL_lst, DL.om_some, List.set_cons_zero, List.set_cons_succ, DL.m_tyL, DL.m_tyS, DL.m_ty, DL.m_app, DL.m_sto, DL.m_fzL, DL.m_fzI, DL.m_fzT, DL.m_fz, DL.x_ref, DL.c_lenR, DL.c_listR, DL.c_tupR, DL.sl_ref, DL.atL_new, DL.atL_new1, DL.atL_new2, DL.atL_old, DL.set_new, DL.set_new1, DL.set_new2, DL.set_old, DL.take_app, DL.app_app, DL.cons_app, DL.nil_app, DL.len_app1, DL.len_app2, DL.len_app3, DL.len_set, DL.seq_new, DL.seq_new1, DL.seq_new2, DL.seq_old, DL.ex_some, DL.fl_non, DL.fl_int, DL.fl_bl, DL.fl_str, DL.fl_tup, DL.fl_lst, DL.fl_obj, DL.fl_nil, DL.fl_cons, DL.fl_app, DL.fl_encP, Bool.and_self, Bool.and_true, Bool.true_and, List.set_set, ↓DL.w_yes, ↓DL.w_fld, ↓DL.w_mt, ↓DL.w_mtL, ↓DL.w_mt0, ↓DL.w_mt0L, ↓DL.w_ic, DL.isO_obj, ↓DL.w_make, ↓DL.w_b2M, ↓DL.w_b2MT, ↓DL.w_uM, ↓DL.w_inv, ↓DL.w_bin_obj, ↓DL.w_bin_int, ↓DL.w_fldS, DL.m_fld, DL.atI_new, DL.putD, ↓DL.w_repL, ↓DL.w_isiC, ↓DL.w_par3, ↓DL.wPar3_3, DL.m_count, DL.wretL_new, DL.wret_new, ↓DL.c_setSort, List.take_length, List.length_cons, List.length_nil, List.length_map, Int.cast_ofNat_Int, Bool.not_true, Bool.not_false, Int.reduceAdd, Int.reduceSub, Int.reduceMul, Int.reduceNeg, Int.reduceEq, Int.reduceLT, Int.reduceLE, Nat.reduceAdd, Nat.reduceSub, eq_self, not_true_eq_false, not_false_eq_true, false_implies, implies_true, true_implies, $ts,*])
open Lean in
local macro_rules | `(tactic| push_cast) => `(tactic| simp only [↓DL.r0, ↓DL.r1, ↓DL.r2, ↓DL.r3, ↓DL.r4, ↓DL.r5, ↓DL.r6, ↓DL.r7, ↓DL.r8, ↓DL.r9, ↓DL.r10, ↓DL.r11, ↓DL.r12, ↓DL.r13, ↓DL.r14, ↓DL.r15, ↓DL.r16, ↓DL.r17, ↓DL.r18, ↓DL.r19, ↓DL.r20, ↓DL.r21, ↓DL.r22, ↓DL.r23, ↓DL.r24, ↓DL.r25, ↓DL.r26, ↓DL.r27, ↓DL.r28, ↓DL.r29, DL.s0, DL.s1, DL.s2, DL.s3, DL.s4, DL.s5, DL.s6, DL.s7, DL.s8, DL.s9, DL.s10, DL.s11, DL.s12, DL.s13, DL.s14, DL.s15, DL.s16, DL.s17, DL.s18, DL.s19, DL.s20, DL.s21, DL.s22, DL.s23, DL.s24, DL.s25, DL.s26, DL.s27, DL.s28, DL.s29, DL.startD_cons, DL.startD_nil, DL.startD_zero, ↓DL.w_ok, ↓DL.w_some, ↓DL.w_somec, ↓DL.w_bind, ↓DL.w_opt, ↓DL.w_chg, ↓DL.w_kon, ↓DL.w_calm, ↓DL.w_b2, ↓DL.w_b2L, ↓DL.w_b1, ↓DL.wB_bl, ↓DL.w_asB, ↓DL.w_b2T, ↓DL.w_chE, ↓DL.w_chT, ↓DL.w_not, ↓DL.w_val, ↓DL.w_notE, ↓DL.w_ifE, ↓DL.w_ifL, ↓DL.w_andM, ↓DL.w_orM, ↓DL.w_andE, ↓DL.w_orE, ↓DL.w_nil, ↓DL.w_cons, ↓DL.w_tup, ↓DL.w_lst, ↓DL.w_frz, ↓DL.w_new, ↓DL.w_cel, ↓DL.w_cb, ↓DL.w_cbL, ↓DL.w_call, ↓DL.w_callL, ↓DL.w_ar0, ↓DL.w_ar1, ↓DL.w_ar2, ↓DL.w_ar3, ↓DL.w_ar4, ↓DL.w_ar5, ↓DL.w_ar6, ↓DL.w_noO, ↓DL.w_smO, ↓DL.w_sl, ↓DL.w_slL, ↓DL.w_rev, ↓DL.w_step, ↓DL.w_isi, ↓DL.w_sets, ↓DL.w_lrg, ↓DL.w_mth, ↓DL.w_mth0, ↓DL.w_itS, ↓DL.w_itR1, ↓DL.w_itR2, ↓DL.w_itR3, ↓DL.w_itZ, ↓DL.w_itN, ↓DL.w_lc, ↓DL.w_nx, ↓DL.w_rt, ↓DL.w_seq, ↓DL.w_set, ↓DL.wPar_2, ↓DL.w_par, ↓DL.w_aug, ↓DL.w_sto, ↓DL.w_exp, ↓DL.w_ret, ↓DL.w_retN, ↓DL.w_nxS, ↓DL.w_ifS, ↓DL.w_for, ↓DL.w_asg, ↓DL.w_stk, ↓DL.w_body, ↓DL.w_bodyL, ↓DL.wret_non, ↓DL.wret_bl, ↓DL.wret_int, ↓DL.wret_str, ↓DL.wif_t, ↓DL.wif_f, ↓DL.wif_d, ↓DL.wif_n, ↓DL.wif_a, ↓DL.wif_o, DL.few0, DL.few1, DL.few2, DL.few3, DL.few4, DL.few5, DL.few6, DL.few7, DL.few8, DL.few9, DL.few10, true_and, and_true, ↓DL.a_nm, ↓DL.a_tp1, ↓DL.a_tp2, ↓DL.a_tp3, ↓DL.a_tp4, ↓DL.a_tp5, ↓DL.a_tpn, ↓DL.a_tpm, ↓DL.a_encP, DL.wipe_nil, DL.wipe_cons, DL.o_add, DL.o_sub, DL.o_neg, ↓DL.o_mul, ↓DL.o_div, ↓DL.o_mod, DL.o_pow, ↓DL.o_p10_3, ↓DL.o_p10_4, ↓DL.o_p10_6, ↓DL.o_p10_8, ↓DL.o_p10_9, ↓DL.o_p10_12, ↓DL.o_p10_15, ↓DL.o_p10_18, ↓DL.o_p10_20, ↓DL.o_p10_25, ↓DL.o_p10_26, ↓DL.o_p10_27, ↓DL.o_p10_28, ↓DL.o_p10_29, ↓DL.o_p10_30, ↓DL.o_p10_31, ↓DL.o_p10_36, ↓DL.o_p10_38, ↓DL.o_p10_40, ↓DL.o_p10_42, ↓DL.o_p10_44, ↓DL.o_p10_46, ↓DL.o_p10_48, ↓DL.o_p10_50, ↓DL.o_p10_60, ↓DL.o_p10_64, ↓DL.o_p10_70, ↓DL.o_p10_90, ↓DL.o_p10_99, ↓DL.o_p10_100, ↓DL.o_addS, ↓DL.o_addT, ↓DL.o_catL, ↓DL.o_addL, DL.o_lt, DL.o_le, DL.o_gt, DL.o_ge, DL.o_eqI, DL.o_neI, DL.o_eqS, DL.o_neS, DL.o_is, DL.o_isn, DL.n_non, DL.n_bl, DL.n_int, DL.n_str, DL.n_lst, DL.n_tup, DL.n_ref, DL.n_obj, DL.i_non_int, DL.i_non_bool, DL.i_non_str, DL.i_non_list, DL.i_non_tuple, DL.i_bl_int, DL.i_bl_bool, DL.i_bl_str, DL.i_bl_list, DL.i_bl_tuple, DL.i_int_int, DL.i_int_bool, DL.i_int_str, DL.i_int_list, DL.i_int_tuple, DL.i_str_int, DL.i_str_bool, DL.i_str_str, DL.i_str_list, DL.i_str_tuple, DL.i_lst_int, DL.i_lst_bool, DL.i_lst_str, DL.i_lst_list, DL.i_lst_tuple, DL.i_tup_int, DL.i_tup_bool, DL.i_tup_str, DL.i_tup_list, DL.i_tup_tuple, DL.t_non, DL.t_bl, DL.t_int, DL.t_lst, DL.t_tup, ↓DL.x_lst, ↓DL.x_tup, ↓DL.x_encP0, ↓DL.x_encP1, DL.ixn1_0, DL.ixn1_m1, DL.ixn2_0, DL.ixn2_1, DL.ixn2_m1, DL.ixn3_0, DL.ixn3_1, DL.ixn3_2, DL.ixn3_m1, DL.ixn4_0, DL.ixn4_1, DL.ixn4_2, DL.ixn4_3, DL.ixn4_m1, DL.ixn5_0, DL.ixn5_1, DL.ixn5_2, DL.ixn5_3, DL.ixn5_4, DL.ixn5_m1, DL.ixn6_0, DL.ixn6_1, DL.ixn6_2, DL.ixn6_3, DL.ixn6_4, DL.ixn6_5, DL.ixn6_m1, DL.ixn7_0, DL.ixn7_1, DL.ixn7_2, DL.ixn7_3, DL.ixn7_4, DL.ixn7_5, DL.ixn7_6, DL.ixn7_m1, DL.ixn8_0, DL.ixn8_1, DL.ixn8_2, DL.ixn8_3, DL.ixn8_4, DL.ixn8_5, DL.ixn8_6, DL.ixn8_7, DL.ixn8_m1, ↓DL.x1_0, ↓DL.x1_m1, ↓DL.x2_0, ↓DL.x2_1, ↓DL.x2_m1, ↓DL.x3_0, ↓DL.x3_1, ↓DL.x3_2, ↓DL.x3_m1, ↓DL.x4_0, ↓DL.x4_1, ↓DL.x4_2, ↓DL.x4_3, ↓DL.x4_m1, ↓DL.x5_0, ↓DL.x5_1, ↓DL.x5_2, ↓DL.x5_3, ↓DL.x5_4, ↓DL.x5_m1, ↓DL.x6_0, ↓DL.x6_1, ↓DL.x6_2, ↓DL.x6_3, ↓DL.x6_4, ↓DL.x6_5, ↓DL.x6_m1, ↓DL.x7_0, ↓DL.x7_1, ↓DL.x7_2, ↓DL.x7_3, ↓DL.x7_4, ↓DL.x7_5, ↓DL.x7_6, ↓DL.x7_m1, ↓DL.x8_0, ↓DL.x8_1, ↓DL.x8_2, ↓DL.x8_3, ↓DL.x8_4, ↓DL.x8_5, ↓DL.x8_6, ↓DL.x8_7, ↓DL.x8_m1, DL.c_abs, DL.c_max2, DL.c_min2, DL.c_int, DL.c_intb, DL.c_lenS, DL.c_lenT, DL.c_lenL, DL.c_listT, DL.c_listL, DL.c_tupT, DL.c_tupL, DL.c_sum, DL.c_sum0, DL.c_all, DL.c_any, DL.c_minP, DL.c_maxP, DL.c_sortP, DL.c_zip, DL.c_enum, DL.c_range1, DL.c_range2, DL.g_lst, DL.g_tup, DL.g_str, DL.p_int, DL.sq_lst, DL.sl_lst, DL.sl_tup, DL.sl_str, DL.slL_lst, DL.om_some, List.set_cons_zero, List.set_cons_succ, DL.m_tyL, DL.m_tyS, DL.m_ty, DL.m_app, DL.m_sto, DL.m_fzL, DL.m_fzI, DL.m_fzT, DL.m_fz, DL.x_ref, DL.c_lenR, DL.c_listR, DL.c_tupR, DL.sl_ref, DL.atL_new, DL.atL_new1, DL.atL_new2, DL.atL_old, DL.set_new, DL.set_new1, DL.set_new2, DL.set_old, DL.take_app, DL.app_app, DL.cons_app, DL.nil_app, DL.len_app1, DL.len_app2, DL.len_app3, DL.len_set, DL.seq_new, DL.seq_new1, DL.seq_new2, DL.seq_old, DL.ex_some, DL.fl_non, DL.fl_int, DL.fl_bl, DL.fl_str, DL.fl_tup, DL.fl_lst, DL.fl_obj, DL.fl_nil, DL.fl_cons, DL.fl_app, DL.fl_encP, Bool.and_self, Bool.and_true, Bool.true_and, List.set_set, ↓DL.w_yes, ↓DL.w_fld, ↓DL.w_mt, ↓DL.w_mtL, ↓DL.w_mt0, ↓DL.w_mt0L, ↓DL.w_ic, DL.isO_obj, ↓DL.w_make, ↓DL.w_b2M, ↓DL.w_b2MT, ↓DL.w_uM, ↓DL.w_inv, ↓DL.w_bin_obj, ↓DL.w_bin_int, ↓DL.w_fldS, DL.m_fld, DL.atI_new, DL.putD, ↓DL.w_repL, ↓DL.w_isiC, ↓DL.w_par3, ↓DL.wPar3_3, DL.m_count, DL.wretL_new, DL.wret_new, ↓DL.c_setSort, List.take_length, List.length_cons, List.length_nil, List.length_map, Int.cast_ofNat_Int, Bool.not_true, Bool.not_false, Int.reduceAdd, Int.reduceSub, Int.reduceMul, Int.reduceNeg, Int.reduceEq, Int.reduceLT, Int.reduceLE, Nat.reduceAdd, Nat.reduceSub, eq_self, not_true_eq_false, not_false_eq_true, false_implies, implies_true, true_implies])
section
variable {S R : Cells} {E : Xc → Cells → Prop} {Q : D → Cells → Prop} {QL : List D → Cells → Prop}
theorem law_true (ns : List Int) (h : ns.length ≤ 63) : ∃ S, g_law [.lst (ns.map .int)] [] = .ok (.bl true) S := by
  have zz := z24
  suffices hw : wp (g_law [.lst (ns.map .int)] []) (fun d _ => d = .bl true) noE by
    obtain ⟨d, S, e, rfl⟩ := wp_ex hw
    exact ⟨S, e⟩
  push_cast [g_law, B_law]
  have hm : 0 ≤ (if (if (ns.length : Int) < 6 then (ns.length : Int) else 6) > 1 then (if (ns.length : Int) < 6 then (ns.length : Int) else 6) else 1) ∧ (if (if (ns.length : Int) < 6 then (ns.length : Int) else 6) > 1 then (if (ns.length : Int) < 6 then (ns.length : Int) else 6) else 1) ≤ 6 := by
    split <;> split <;> omega
  generalize (if (if (ns.length : Int) < 6 then (ns.length : Int) else 6) > 1 then (if (ns.length : Int) < 6 then (ns.length : Int) else 6) else 1) = m at *
  push_cast [w_rangeI hm.1 (by omega)]
  refine for_wp (fun k : Nat => D.int k) (fun r ρ S2 => (∀ k ∈ r, k < 6) ∧ ∃ x1 x2 x3 x4 x5 x6, ρ = [some (.lst (ns.map .int)), x1, x2, x3, x4, x5, x6, none, none]) ?_ ?_ _ _ _ ⟨fun k hk => by rw [List.mem_range] at hk; omega, _, _, _, _, _, _, rfl⟩
  · rintro i r ρ S2 ⟨hi, x1, x2, x3, x4, x5, x6, rfl⟩
    have hi0 := hi i List.mem_cons_self
    push_cast [L2_law]
    refine pond_wp (by omega) (by omega) fun l hl hp => ?_
    push_cast [hl, w_rangeI (i := 4) (by decide) (by omega)]
    have hp0 := (hp S2).mono (j := 1000) (by omega)
    refine for_wp (fun k : Nat => D.int k) (fun r3 ρ S3 => r3.length ≤ 4 ∧ Pond S3 S2.length (1000 + 300 * (4 - r3.length)) ∧ ∃ x3 x4 x5 x6, ρ = [some (.lst (ns.map .int)), some (.int i), some (.ref S2.length), x3, x4, x5, x6, none, none]) ?_ ?_ (List.range (Int.toNat 4)) _ _ ⟨by decide, hp0.mono (by omega), _, _, _, _, rfl⟩
    · rintro j r3 ρ S3 ⟨hl4, hp, x3, x4, x5, x6, rfl⟩
      rw [List.length_cons] at hl4 hp
      push_cast [L1_law]
      have hj0 := Int.emod_nonneg (j : Int) (b := 2) (by decide)
      have hj1 := Int.emod_lt_of_pos (j : Int) (b := 2) (by decide)
      refine at_2 hj0 hj1 (fun ej => ?_) (fun ej => ?_)
      · push_cast
        refine given_wp hp (by omega) (by decide) (by decide) fun F S4 ha hz hb hp hf => ?_
        push_cast
        refine given_wp hp (by omega) (by decide) (by decide) fun G S5 ha2 hz2 hb2 hp hf2 => ?_
        push_cast
        refine dip_wp0 hp (by omega) (by decide) (by decide) fun v S6 v0 v1 hp hf5 => ?_
        push_cast
        refine right_wp (b := 72) (t := 7) hp (by omega) v0 (by omega) (by decide) (by decide) ha (fun p hp => by have := hb p hp; omega) ha2 (fun p hp => by have := hb2 p hp; omega) (by decide) (by decide) (by decide) (by omega) (by omega) fun S7 hp hf6 => ?_
        push_cast
        exact ⟨by omega, hp.mono (by omega), _, _, _, _, rfl⟩
      · push_cast
        refine given_wp hp (by omega) (by decide) (by decide) fun F S4 ha hz hb hp hf => ?_
        push_cast
        refine given_wp hp (by omega) (by decide) (by decide) fun G S5 ha2 hz2 hb2 hp hf2 => ?_
        push_cast
        refine dip_wp0 hp (by omega) (by decide) (by decide) fun v S6 v0 v1 hp hf5 => ?_
        push_cast
        refine right_wp (b := 12 * 10 ^ 30 + 12) (t := 10 ^ 30 + 2) hp (by omega) v0 (by omega) (by decide) (by decide) ha (fun p hp => by have := hb p hp; omega) ha2 (fun p hp => by have := hb2 p hp; omega) (by decide) (by decide) (by decide) (by omega) (by omega) fun S7 hp hf6 => ?_
        push_cast
        exact ⟨by omega, hp.mono (by omega), _, _, _, _, rfl⟩
    · rintro ρ S3 ⟨hl4, hp, x3, x4, x5, x6, rfl⟩
      push_cast
      refine ⟨fun hi0 => ?_, fun hi0 => ⟨fun k hk => hi k (List.mem_cons_of_mem _ hk), _, _, _, _, _, _, rfl⟩⟩
      refine many_wp hp (by simp) (by omega) (by omega) fun F S6 ha hz hb hp hf => ?_
      push_cast
      refine many_wp hp (by simp) (by omega) (by omega) fun G S7 ha2 hz2 hb2 hp hf => ?_
      push_cast
      refine right_wp (b := 500) (t := 3) hp (by simp) (by decide) (by decide) (by decide) (by decide) ha (fun p hp => by have := hb p hp; omega) ha2 (fun p hp => by have := hb2 p hp; omega) (by decide) (by decide) (by decide) (by omega) (by omega) fun S8 hp hf8 => ?_
      push_cast
      exact ⟨fun k hk => hi k (List.mem_cons_of_mem _ hk), _, _, _, _, _, _, rfl⟩
  · rintro ρ S2 ⟨_, x1, x2, x3, x4, x5, x6, rfl⟩
    have ca : MP.Canon 1 [((1 : Int), (2 : Int), (3 : Int)), (5, 5, 1)] := ⟨by decide, by decide, by decide, fun s e es => by simp at e; subst e; exact absurd es (by decide), by decide, by decide, by decide, fun s e => by simp at e, trivial⟩
    have cb : MP.Canon 1 [((3 : Int), (4 : Int), (3 : Int)), (5, 5, 2)] := ⟨by decide, by decide, by decide, fun s e es => by simp at e; subst e; decide, by decide, by decide, by decide, fun s e => by simp at e, trivial⟩
    have cs : MP.Canon 1 [((1 : Int), (5 : Int), (3 : Int))] := ⟨by decide, by decide, by decide, fun s e => by simp at e, trivial⟩
    have pg : ∀ {J : List MP.T}, MP.Canon 1 J → J.length ≤ 2 → (∀ p ∈ J, p.2.1 ≤ 9 ∧ p.2.2 ≤ 9) → PG 2 9 J := fun hc hl h => ⟨hc, hl, fun p hp => by have := h p hp; omega, fun p hp => (h p hp).2, by decide⟩
    have ga : PG 2 9 [((1 : Int), (2 : Int), (3 : Int)), (5, 5, 1)] := pg ca (by decide) (by decide)
    have gb : PG 2 9 [((3 : Int), (4 : Int), (3 : Int)), (5, 5, 2)] := pg cb (by decide) (by decide)
    have m1 : ∀ S, makeD NMf 0 3 g_Profile___init__ [.int 1, .lst [.tup [.int 1, .int 2, .int 3], .tup [.int 5, .int 5, .int 1]]] S = .ok (prof 1 [(1, 2, 3), (5, 5, 1)]) S := fun S => by
      have := make_ok (S := S) (c := 1) (l := [(1, 2, 3), (5, 5, 1)]) (by decide) ca.asc (by decide)
      rwa [MP.fin_canon ca] at this
    have m2 : ∀ S, makeD NMf 0 3 g_Profile___init__ [.int 2, .lst [.tup [.int 3, .int 4, .int 3], .tup [.int 5, .int 5, .int 2]]] S = .ok (prof 2 [(3, 4, 3), (5, 5, 2)]) S := fun S => by
      have := make_ok (S := S) (c := 2) (l := [(3, 4, 3), (5, 5, 2)]) (by decide) cb.asc (by decide)
      rwa [MP.fin_canon cb] at this
    have hsum : ∀ d, MP.cnt [((1 : Int), (5 : Int), (3 : Int))] d = MP.cnt [((1 : Int), (2 : Int), (3 : Int)), (5, 5, 1)] d + MP.cnt [((3 : Int), (4 : Int), (3 : Int)), (5, 5, 2)] d := fun d => by
      simp only [MP.cnt_cons, MP.cnt_nil, MP.inT_iff]
      (repeat' split) <;> omega
    have hadd := addO (c := 3) (a := 1) (b := 2) ga gb (by decide) (by decide) (by decide) rfl cs hsum
    have hmul := mulO (c := 0) (a := 2) (m := 0) (L := []) gb (by decide) (by decide) (by decide) (by decide) rfl trivial fun d => by rw [MP.cnt_nil, Int.zero_mul]
    obtain ⟨X1, _, r1, s1⟩ := shown_ok (c := 3) (pg cs (by decide) (by decide)) (by decide) (by decide) (by decide)
    obtain ⟨X2, _, r2, s2⟩ := shown_ok (c := 0) (J := []) (pg (J := []) trivial (by decide) (by decide)) (by decide) (by decide) (by decide)
    have e1 : reprD [.lst [.int 3, .lst ([((1 : Int), (5 : Int), (3 : Int))].map encT)]] [] = some (.str "[3, [(1, 5, 3)]]") := by kernel_rfl
    have e2 : reprD [.lst [.int 0, .lst (([] : List MP.T).map encT)]] [] = some (.str "[0, []]") := by kernel_rfl
    rw [r1] at e1
    rw [r2] at e2
    cases e1
    cases e2
    push_cast [m1, m2, hadd, hmul, s1, s2, decide_true]
end

end K15
end
section
set_option maxHeartbeats 0
namespace K15
open PySem PySem.Spec L2 DL
open PyProof.Rows hiding St
/-! ### the head -/
def nm0 : List Str := ["_wall", "ScanError", "InvalidSize", "InvalidNumber", "InvalidProfile", "is_int", "in_range", "require_size", "require_number", "MOST_TIMES", "is_piece", "are_pieces", "joined_pieces", "multiplied", "Profile", "profile_from", "_law_pond", "_law_dip", "_law_given", "_law_many", "_law_often", "_law_both", "_law_shown", "_law_right"]
def nms : List Str := nm0
abbrev R : PySem.W.OpenRow := PySem.W.OpenLaw.row PySem.Challenge.rw_scanmisses_k15_profiles_added_and_multip
abbrev hk : PySem.W.Hook := hookW 6 fa pr op bn xf fn
def ob (s : PySem.W.SharedT) : AlQ := obsWG 6 fa pr op bn xf fn (HandSHeadRun.getT s)
theorem ob_eq (s : PySem.W.SharedT) : ob s = hk.obs s.abs := obsWG_eq (HandSHeadRun.getT_eq s)
set_option maxHeartbeats 0 in
theorem run (w : World) : HandSHeadRun.RunEq R (PySem.W.view R.prog [28]) hk ob 2800 nms w := by
  intro os
  kernel_rfl
theorem facts {P : Program} {w : World} {K : PySem.W.Frag} {h : Heap} {mg : Str → Option Value} {f : Addr} (X : K.In h) (G : h.Ns mainGlobals mg) (hfa : mg ("law" : Str) = some (.ref f)) (c : SaysW fa pr op bn xf fn K) :
    ∃ (K' : PySem.W.Frag) (fd : FuncData) (T : Tab), K'.In h ∧ (∀ (s : Shared) (v : Value), BindsTo s fd ⟨[v], []⟩ [("script", v)]) ∧ ∀ base : Heap, K'.In base → base.Ns mainGlobals mg → FnG P w K' mg base 10 f fd ["script"] (spD K' T 1 g_law) := by
  obtain ⟨fd, F⟩ := c.def_ 22 (d := d_law) rfl
  have e := hfa.symm.trans (He.glo_ok X G (c.fact 21 (f := .glo "law") rfl))
  cases e
  have b := FunD.bindsA (ps := ["script"]) F fun _ _ _ _ _ _ us hl => match us, hl with | [_], _ => rfl
  refine ⟨K, fd, TT K, X, fun s v => b s [v] rfl, fun base _ _ => ?_⟩
  exact fnG_law X G c fd F
end K15
open PySem PySem.W PySem.Calls PyProof.Rows
theorem PySem.Challenge.cw_scanmisses_k15_profiles_added_and_multip_holds : PySem.Challenge.rw_scanmisses_k15_profiles_added_and_multip.Holds := by
  w_on; o_law
  refine HandSHeadRun.head_any (r := OpenLaw.row PySem.Challenge.rw_scanmisses_k15_profiles_added_and_multip) (q := view (OpenLaw.row PySem.Challenge.rw_scanmisses_k15_profiles_added_and_multip).prog [28]) (H := K15.hk) (ob := K15.ob) (M := 2800) (loose := K15.nms) (d := HandSHeadRun.topDef (OpenLaw.row PySem.Challenge.rw_scanmisses_k15_profiles_added_and_multip).prog 28) (kwd := []) K15.ob_eq
    (by kernel_rfl) (fun s => by kernel_rfl) K15.run (by kernel_rfl) (by kernel_rfl) (by kernel_rfl) (by rfl) (by first | assumption | decide +kernel) (by decide +kernel) ⟨rfl, rfl, rfl, rfl, rfl, by decide +kernel⟩ ?hw ?hc
  case hw => w_witness2
  case hc =>
    refine DL.walk_D (l := PySem.Challenge.rw_scanmisses_k15_profiles_added_and_multip) (n := 63) (k := 10) (x := "script") (g := K15.g_law) rfl (by decide) (by kernel_rfl) ⟨rfl, by decide, by decide⟩ ?F K15.law_true
    intro w mg fa h Y G hmg0
    obtain ⟨K, KX, c⟩ := Y
    have hmg : mg ("law" : PySem.Str) = some (.ref fa) := by
      have e : (HandSHeadRun.topDef (OpenLaw.row PySem.Challenge.rw_scanmisses_k15_profiles_added_and_multip).prog 28).name = ("law" : PySem.Str) := by kernel_rfl
      rw [← e]
      exact hmg0
    exact K15.facts (P := (PySem.Challenge.rw_scanmisses_k15_profiles_added_and_multip).prog) (w := w) KX G hmg c
end
