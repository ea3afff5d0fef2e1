import PyProof.Rows.All
import Wide.All
import OpenK.AllK
import Wide.FinOn
import HandS.ForMost
import HandS.Walk
import HandS.Flow
import HandS.Defaults
import HandS.TupAny
import HandS.TupLe
import HandS.IsInst
import HandS.Wide
import HandS.SortInts
import HandS.SortRule
import HandS.Style
import HandS.Conv
import HandS.SetFor
import HandS.Strs
import KE.DatumOrd
import KE.DatumMoreOrd
import PyProof.ReprReads
import HandS.More
import HandS.Ends
import HandS.Head0
import HandS.Head1
import HandS.Head2
import HandS.HeadEnd
import HandS.HeadHook1
import HandS.HeadHook2
import HandS.Deep
import PySem.Challenge.RW_scanmisses_k04_great_lists
set_option Elab.async false
set_option linter.all false
set_option maxRecDepth 100000
section
set_option maxHeartbeats 2000000
/-! DLa: data D over the abstract heap: what stands for what, cells (lists and instances that change), and how they are kept. -/
namespace DL
open PySem PySem.Spec PyProof.Rows L2

/-- Python's data as trees; ref: a cell of the store; obj: an instance that does not change any more -/
inductive D where
  | non | bl (b : Bool) | int (i : Int) | str (x : Str)
  | tup (l : List D) | lst (l : List D) | ref (n : Nat) | obj (c : Nat) (l : List D)
/-- what a cell holds -/
inductive CC where
  | lst (l : List D) | ins (k : Nat) (fs : List (Str × D))
structure Cell where
  live : Bool
  c : CC
abbrev Cells := List Cell
/-- an exception: its class by number, its one argument -/
structure Xc where
  cls : Nat
  arg : Option D
inductive R (α : Type) where
  | ok (a : α) (S : Cells) | err (x : Xc) (S : Cells) | stuck
abbrev M (α : Type) := Cells → R α
def M.pure {α : Type} (a : α) : M α := fun S => .ok a S
def M.bind {α β : Type} (f : M α) (g : α → M β) : M β := fun S => match f S with
  | .ok a S' => g a S'
  | .err x S' => .err x S'
  | .stuck => .stuck
def stuck {α : Type} : M α := fun _ => .stuck

/-- classes by number: where they stand, their attributes' names -/
structure Tab where
  C : Nat → Addr
  N : Nat → List Str

mutual
inductive Rp (K : PySem.W.Frag) (T : Tab) (γ : List Addr) (F : Hp) : D → V → Prop
  | non : Rp K T γ F .non .non
  | bl (b : Bool) : Rp K T γ F (.bl b) (.bl b)
  | int (i : Int) : Rp K T γ F (.int i) (.int i)
  | str (x : Str) : x.length ≤ sizeLine → Rp K T γ F (.str x) (.str x)
  | lst {a : Addr} {ds : List D} {vs : List V} : SqL K F a vs → ds.length ≤ sizeLine → RpL K T γ F ds vs → Rp K T γ F (.lst ds) (.ref a)
  | tup {a : Addr} {ds : List D} {vs : List V} : SqT K F a vs → ds.length ≤ sizeLine → RpL K T γ F ds vs → Rp K T γ F (.tup ds) (.ref a)
  | ref {n : Nat} {a : Addr} : γ[n]? = some a → Rp K T γ F (.ref n) (.ref a)
  | obj {a dx : Addr} {c : Nat} {ds : List D} {vs : List V} : F a = some (.ins (T.C c) dx ((T.N c).zip vs)) → vs.length = (T.N c).length → RpL K T γ F ds vs → Rp K T γ F (.obj c ds) (.ref a)
inductive RpL (K : PySem.W.Frag) (T : Tab) (γ : List Addr) (F : Hp) : List D → List V → Prop
  | nil : RpL K T γ F [] []
  | cons {d : D} {ds : List D} {v : V} {vs : List V} : Rp K T γ F d v → RpL K T γ F ds vs → RpL K T γ F (d :: ds) (v :: vs)
end

section
variable {K : PySem.W.Frag} {T : Tab} {γ γ' : List Addr} {F F' : Hp}
theorem same_seqT {H H' : Hp} {a : Addr} {xs : List V} (e : Same H H') (h : SqT K H a xs) : SqT K H' a xs := by
  rcases h with (h | ⟨o, h⟩) | h
  · exact .inl (.inl (e _ _ h))
  · exact .inl (.inr ⟨o, e _ _ h⟩)
  · exact .inr h
mutual
theorem Rp.mono (hg : ∀ (n : Nat) (a : Addr), γ[n]? = some a → γ'[n]? = some a) (hs : Same F F') : ∀ (d : D) (v : V), Rp K T γ F d v → Rp K T γ' F' d v
  | .non, _, h => by cases h; exact .non
  | .bl _, _, h => by cases h; exact .bl _
  | .int _, _, h => by cases h; exact .int _
  | .str _, _, h => by cases h with | str x z => exact .str _ z
  | .lst ds, _, h => by cases h with | lst a z b => exact .lst (hs.seq a) z (RpL.mono hg hs ds _ b)
  | .tup ds, _, h => by cases h with | tup a z b => exact .tup (same_seqT hs a) z (RpL.mono hg hs ds _ b)
  | .ref n, _, h => by cases h with | ref a => exact .ref (hg _ _ a)
  | .obj c ds, _, h => by cases h with | obj a b e => exact .obj (hs _ _ a) b (RpL.mono hg hs ds _ e)
theorem RpL.mono (hg : ∀ (n : Nat) (a : Addr), γ[n]? = some a → γ'[n]? = some a) (hs : Same F F') : ∀ (ds : List D) (vs : List V), RpL K T γ F ds vs → RpL K T γ' F' ds vs
  | [], _, h => by cases h; exact .nil
  | d :: ds, _, h => by cases h with | cons a b => exact .cons (Rp.mono hg hs d _ a) (RpL.mono hg hs ds _ b)
end
theorem RpL.length : ∀ {ds : List D} {vs : List V}, RpL K T γ F ds vs → ds.length = vs.length
  | [], _, h => by cases h; rfl
  | d :: ds, _, h => by cases h with | cons a b => simp [RpL.length b]
theorem RpL.get : ∀ {ds : List D} {vs : List V} {i : Nat} {d : D}, RpL K T γ F ds vs → ds[i]? = some d → ∃ v, vs[i]? = some v ∧ Rp K T γ F d v
  | [], _, _, _, _, h => by simp at h
  | d :: ds, _, 0, _, h, e => by
    cases h with
    | cons a b =>
      rw [List.getElem?_cons_zero] at e
      cases e
      exact ⟨_, rfl, a⟩
  | d :: ds, _, i + 1, _, h, e => by
    cases h with
    | cons a b => exact RpL.get b (i := i) (by simpa using e)
theorem RpL.get' : ∀ {ds : List D} {vs : List V} {i : Nat} {v : V}, RpL K T γ F ds vs → vs[i]? = some v → ∃ d, ds[i]? = some d ∧ Rp K T γ F d v := by
  intro ds vs i v h e
  have hl := h.length
  have hi : i < ds.length := by
    have := (List.getElem?_eq_some_iff.mp e).1
    omega
  obtain ⟨v', e', r⟩ := h.get (List.getElem?_eq_getElem hi)
  rw [e] at e'
  cases e'
  exact ⟨_, List.getElem?_eq_getElem hi, r⟩
theorem RpL.append : ∀ {ds es : List D} {vs ws : List V}, RpL K T γ F ds vs → RpL K T γ F es ws → RpL K T γ F (ds ++ es) (vs ++ ws)
  | [], _, _, _, h, q => by cases h; exact q
  | d :: ds, _, _, _, h, q => by cases h with | cons a b => exact .cons a (RpL.append b q)
theorem RpL.one {d : D} {v : V} (h : Rp K T γ F d v) : RpL K T γ F [d] [v] := .cons h .nil
theorem RpL.take : ∀ {ds : List D} {vs : List V} (n : Nat), RpL K T γ F ds vs → RpL K T γ F (ds.take n) (vs.take n)
  | _, _, 0, _ => .nil
  | [], _, _ + 1, h => by cases h; exact .nil
  | d :: ds, _, n + 1, h => by cases h with | cons a b => exact .cons a (RpL.take n b)
theorem RpL.drop : ∀ {ds : List D} {vs : List V} (n : Nat), RpL K T γ F ds vs → RpL K T γ F (ds.drop n) (vs.drop n)
  | _, _, 0, h => h
  | [], _, _ + 1, h => by cases h; exact .nil
  | d :: ds, _, n + 1, h => by cases h with | cons a b => exact RpL.drop n b
theorem RpL.set {d : D} {v : V} (r : Rp K T γ F d v) : ∀ {ds : List D} {vs : List V} (i : Nat), RpL K T γ F ds vs → RpL K T γ F (ds.set i d) (vs.set i v)
  | [], _, _, h => by cases h; exact .nil
  | e :: ds, _, 0, h => by cases h with | cons a b => exact .cons r b
  | e :: ds, _, i + 1, h => by cases h with | cons a b => exact .cons a (RpL.set r i b)
theorem RpL.eraseIdx : ∀ {ds : List D} {vs : List V} (i : Nat), RpL K T γ F ds vs → RpL K T γ F (ds.eraseIdx i) (vs.eraseIdx i)
  | [], _, _, h => by cases h; exact .nil
  | e :: ds, _, 0, h => by cases h with | cons a b => exact b
  | e :: ds, _, i + 1, h => by cases h with | cons a b => exact .cons a (RpL.eraseIdx i b)
theorem RpL.reverse {ds : List D} {vs : List V} (h : RpL K T γ F ds vs) : RpL K T γ F ds.reverse vs.reverse := by
  induction ds generalizing vs with
  | nil => cases h; exact .nil
  | cons d ds ih =>
    cases h with
    | cons a b =>
      rw [List.reverse_cons, List.reverse_cons]
      exact (ih b).append (.one a)
theorem RpL.flatten (n : Nat) {ds : List D} {vs : List V} (h : RpL K T γ F ds vs) : RpL K T γ F (List.replicate n ds).flatten (List.replicate n vs).flatten := by
  induction n with
  | zero => exact .nil
  | succ n ih =>
    rw [List.replicate_succ, List.replicate_succ, List.flatten_cons, List.flatten_cons]
    exact h.append ih
theorem RpL.insertIdx {d : D} {v : V} (r : Rp K T γ F d v) : ∀ {ds : List D} {vs : List V} (i : Nat), RpL K T γ F ds vs → RpL K T γ F (ds.insertIdx i d) (vs.insertIdx i v)
  | ds, vs, 0, h => by
    rw [List.insertIdx_zero, List.insertIdx_zero]
    exact .cons r h
  | [], _, i + 1, h => by
    cases h
    rw [List.insertIdx_succ_nil, List.insertIdx_succ_nil]
    exact .nil
  | e :: ds, _, i + 1, h => by
    cases h with
    | cons a b =>
      rw [List.insertIdx_succ_cons, List.insertIdx_succ_cons]
      exact .cons a (RpL.insertIdx r i b)
/-- the ints of a list -/
def ints? : List D → Option (List Int)
  | [] => some []
  | .int i :: r => (ints? r).map (i :: ·)
  | _ => none
theorem ints?_map (ns : List Int) : ints? (ns.map .int) = some ns := by
  induction ns with
  | nil => rfl
  | cons n ns ih => rw [List.map_cons]; show (ints? _).map _ = _; rw [ih]; rfl
theorem ints?_rep : ∀ {ds : List D} {vs : List V} {ns : List Int}, RpL K T γ F ds vs → ints? ds = some ns → vs = ns.map V.int ∧ ds = ns.map D.int
  | [], _, ns, h, e => by
    cases h
    cases e
    exact ⟨rfl, rfl⟩
  | .int i :: ds, _, ns, h, e => by
    cases h with
    | cons a b =>
      cases a
      have e' : (ints? ds).map (i :: ·) = some ns := e
      cases q : ints? ds with
      | none => rw [q] at e'; cases e'
      | some ms =>
        rw [q] at e'
        cases e'
        obtain ⟨h1, h2⟩ := ints?_rep b q
        rw [h1, h2]
        exact ⟨rfl, rfl⟩
  | .non :: ds, _, ns, h, e => nomatch e
  | .bl _ :: ds, _, ns, h, e => nomatch e
  | .str _ :: ds, _, ns, h, e => nomatch e
  | .tup _ :: ds, _, ns, h, e => nomatch e
  | .lst _ :: ds, _, ns, h, e => nomatch e
  | .ref _ :: ds, _, ns, h, e => nomatch e
  | .obj _ _ :: ds, _, ns, h, e => nomatch e
theorem rep_ints : ∀ (ns : List Int), RpL K T γ F (ns.map D.int) (ns.map V.int)
  | [] => .nil
  | n :: ns => .cons (.int n) (rep_ints ns)
/-- the bools of a list -/
def bls? : List D → Option (List Bool)
  | [] => some []
  | .bl i :: r => (bls? r).map (i :: ·)
  | _ => none
theorem bls?_map (ns : List Bool) : bls? (ns.map .bl) = some ns := by
  induction ns with
  | nil => rfl
  | cons n ns ih => rw [List.map_cons]; show (bls? _).map _ = _; rw [ih]; rfl
theorem bls?_rep : ∀ {ds : List D} {vs : List V} {ns : List Bool}, RpL K T γ F ds vs → bls? ds = some ns → vs = ns.map V.bl ∧ ds = ns.map D.bl
  | [], _, ns, h, e => by
    cases h
    cases e
    exact ⟨rfl, rfl⟩
  | .bl i :: ds, _, ns, h, e => by
    cases h with
    | cons a b =>
      cases a
      have e' : (bls? ds).map (i :: ·) = some ns := e
      cases q : bls? ds with
      | none => rw [q] at e'; cases e'
      | some ms =>
        rw [q] at e'
        cases e'
        obtain ⟨h1, h2⟩ := bls?_rep b q
        rw [h1, h2]
        exact ⟨rfl, rfl⟩
  | .non :: ds, _, ns, h, e => nomatch e
  | .int _ :: ds, _, ns, h, e => nomatch e
  | .str _ :: ds, _, ns, h, e => nomatch e
  | .tup _ :: ds, _, ns, h, e => nomatch e
  | .lst _ :: ds, _, ns, h, e => nomatch e
  | .ref _ :: ds, _, ns, h, e => nomatch e
  | .obj _ _ :: ds, _, ns, h, e => nomatch e
/-- no cell is named in it -/
def D.flat : D → Bool
  | .ref _ => false
  | .lst l => l.attach.all fun ⟨d, _⟩ => d.flat
  | .tup l => l.attach.all fun ⟨d, _⟩ => d.flat
  | .obj _ l => l.attach.all fun ⟨d, _⟩ => d.flat
  | _ => true
def flatL (l : List D) : Bool := l.all D.flat
theorem flat_lst (l : List D) : (D.lst l).flat = flatL l := by
  unfold D.flat flatL
  simp
theorem flat_tup (l : List D) : (D.tup l).flat = flatL l := by
  unfold D.flat flatL
  simp
theorem flat_obj (c : Nat) (l : List D) : (D.obj c l).flat = flatL l := by
  unfold D.flat flatL
  simp
@[simp] theorem flat_non : D.non.flat = true := by simp [D.flat]
@[simp] theorem flat_bl (b : Bool) : (D.bl b).flat = true := by simp [D.flat]
@[simp] theorem flat_int (b : Int) : (D.int b).flat = true := by simp [D.flat]
@[simp] theorem flat_str (b : Str) : (D.str b).flat = true := by simp [D.flat]
@[simp] theorem flat_ref (b : Nat) : (D.ref b).flat = false := by simp [D.flat]
theorem flatL_cons (d : D) (l : List D) : flatL (d :: l) = (d.flat && flatL l) := rfl
mutual
theorem Rp.toflat : ∀ (d : D) (v : V), d.flat = true → Rp K T γ F d v → Rp K T [] F d v
  | .non, _, _, h => by cases h; exact .non
  | .bl _, _, _, h => by cases h; exact .bl _
  | .int _, _, _, h => by cases h; exact .int _
  | .str _, _, _, h => by cases h with | str x z => exact .str _ z
  | .lst ds, _, f, h => by cases h with | lst a z b => exact .lst a z (RpL.toflat ds _ (by rw [flat_lst] at f; exact f) b)
  | .tup ds, _, f, h => by cases h with | tup a z b => exact .tup a z (RpL.toflat ds _ (by rw [flat_tup] at f; exact f) b)
  | .ref n, _, f, h => by simp at f
  | .obj c ds, _, f, h => by cases h with | obj a b e => exact .obj a b (RpL.toflat ds _ (by rw [flat_obj] at f; exact f) e)
theorem RpL.toflat : ∀ (ds : List D) (vs : List V), flatL ds = true → RpL K T γ F ds vs → RpL K T [] F ds vs
  | [], _, _, h => by cases h; exact .nil
  | d :: ds, _, f, h => by
    rw [flatL_cons, Bool.and_eq_true] at f
    cases h with | cons a b => exact .cons (Rp.toflat d _ f.1 a) (RpL.toflat ds _ f.2 b)
end
theorem Rp.nil_any (hs : Same F F') {d : D} {v : V} (h : Rp K T [] F d v) : Rp K T γ F' d v := Rp.mono (by simp) hs d v h
theorem RpL.nil_any (hs : Same F F') {d : List D} {v : List V} (h : RpL K T [] F d v) : RpL K T γ F' d v := RpL.mono (by simp) hs d v h
mutual
theorem Rp.nilflat : ∀ (d : D) (v : V), Rp K T [] F d v → d.flat = true
  | .non, _, h => by simp
  | .bl _, _, h => by simp
  | .int _, _, h => by simp
  | .str _, _, h => by simp
  | .lst ds, _, h => by cases h with | lst a z b => rw [flat_lst]; exact RpL.nilflat ds _ b
  | .tup ds, _, h => by cases h with | tup a z b => rw [flat_tup]; exact RpL.nilflat ds _ b
  | .ref n, _, h => by cases h with | ref a => simp at a
  | .obj c ds, _, h => by cases h with | obj a b e => rw [flat_obj]; exact RpL.nilflat ds _ e
theorem RpL.nilflat : ∀ (ds : List D) (vs : List V), RpL K T [] F ds vs → flatL ds = true
  | [], _, _ => rfl
  | d :: ds, _, h => by
    cases h with | cons a b => rw [flatL_cons, Rp.nilflat d _ a, RpL.nilflat ds _ b]; rfl
end
end

/-! ### the store -/
def liveAt (γ : List Addr) (S : Cells) (b : Addr) : Bool := (γ.zip S).any fun p => decide (p.1 = b) && p.2.live
theorem liveAt_iff {γ : List Addr} {S : Cells} {b : Addr} : liveAt γ S b = true ↔ ∃ (n : Nat) (c : Cell), γ[n]? = some b ∧ S[n]? = some c ∧ c.live = true := by
  unfold liveAt
  rw [List.any_eq_true]
  constructor
  · rintro ⟨p, hp, h⟩
    obtain ⟨n, hn⟩ := List.mem_iff_getElem?.mp hp
    rw [List.getElem?_zip_eq_some] at hn
    simp only [Bool.and_eq_true, decide_eq_true_eq] at h
    exact ⟨n, p.2, by rw [hn.1, h.1], hn.2, h.2⟩
  · rintro ⟨n, c, h1, h2, h3⟩
    refine ⟨(b, c), List.mem_iff_getElem?.mpr ⟨n, ?_⟩, by simp [h3]⟩
    rw [List.getElem?_zip_eq_some]
    exact ⟨h1, h2⟩
/-- the heap without the live cells and what is hidden -/
def out (γ : List Addr) (S : Cells) (hid : List Addr) (H : Hp) : Hp := fun b => if (decide (b ∈ hid) || liveAt γ S b) = true then none else H b
theorem out_sub (γ : List Addr) (S : Cells) (hid : List Addr) (H : Hp) : Same (out γ S hid H) H := fun b o h => by
  unfold out at h
  split at h
  · cases h
  · exact h
theorem out_some {γ : List Addr} {S : Cells} {hid : List Addr} {H : Hp} {b : Addr} {o : HO} : out γ S hid H b = some o ↔ b ∉ hid ∧ liveAt γ S b = false ∧ H b = some o := by
  unfold out
  by_cases h1 : b ∈ hid
  · simp [h1]
  · cases h2 : liveAt γ S b <;> simp [h1]
/-- what a cell's object is -/
inductive CRep (K : PySem.W.Frag) (T : Tab) (F : Hp) : CC → HO → Prop
  | lst {l : List D} {vs : List V} : l.length ≤ sizeLine → RpL K T [] F l vs → CRep K T F (.lst l) (.lst vs)
  | ins {k : Nat} {dx : Addr} {fs : List (Str × D)} {gs : List (Str × V)} : fs.map (·.1) = gs.map (·.1) → RpL K T [] F (fs.map (·.2)) (gs.map (·.2)) → CRep K T F (.ins k fs) (.ins (T.C k) dx gs)
theorem CRep.mono {K : PySem.W.Frag} {T : Tab} {F F' : Hp} {c : CC} {o : HO} (hs : Same F F') (h : CRep K T F c o) : CRep K T F' c o := by
  cases h with
  | lst z r => exact .lst z (r.nil_any hs)
  | ins e r => exact .ins e (r.nil_any hs)
structure Hold (K : PySem.W.Frag) (T : Tab) (γ hid : List Addr) (S : Cells) (H : Hp) : Prop where
  len : γ.length = S.length
  nd : γ.Nodup
  cell : ∀ (n : Nat) (a : Addr) (c : Cell), γ[n]? = some a → S[n]? = some c → ∃ o, H a = some o ∧ CRep K T (out γ S hid H) c.c o
  hidT : ∀ a ∈ hid, H a ≠ none
  hidG : ∀ a ∈ hid, a ∉ γ
structure Ext (γ : List Addr) (S : Cells) (H : Hp) (γ' : List Addr) (S' : Cells) (H' : Hp) : Prop where
  pre : ∀ (n : Nat) (a : Addr), γ[n]? = some a → γ'[n]? = some a
  same : Same (out γ S [] H) (out γ' S' [] H')
theorem Ext.refl (γ : List Addr) (S : Cells) (H : Hp) : Ext γ S H γ S H := ⟨fun _ _ h => h, Same.refl _⟩
theorem Ext.trans {γ γ1 γ2 : List Addr} {S S1 S2 : Cells} {H H1 H2 : Hp} (a : Ext γ S H γ1 S1 H1) (b : Ext γ1 S1 H1 γ2 S2 H2) : Ext γ S H γ2 S2 H2 :=
  ⟨fun n x h => b.pre n x (a.pre n x h), a.same.trans b.same⟩
theorem Ext.sameH {γ γ' : List Addr} {S S' : Cells} {H H' : Hp} (e : Ext γ S H γ' S' H') (hid : List Addr) : Same (out γ S hid H) (out γ' S' hid H') := fun b o h => by
  obtain ⟨h1, h2, h3⟩ := out_some.mp h
  obtain ⟨_, q2, q3⟩ := out_some.mp (e.same b o (out_some.mpr ⟨by simp, h2, h3⟩))
  exact out_some.mpr ⟨h1, q2, q3⟩
theorem Ext.rp {K : PySem.W.Frag} {T : Tab} {γ γ' hid : List Addr} {S S' : Cells} {H H' : Hp} (e : Ext γ S H γ' S' H') {d : D} {v : V} (h : Rp K T γ (out γ S hid H) d v) : Rp K T γ' (out γ' S' hid H') d v := Rp.mono e.pre (e.sameH hid) d v h
theorem Ext.rpl {K : PySem.W.Frag} {T : Tab} {γ γ' hid : List Addr} {S S' : Cells} {H H' : Hp} (e : Ext γ S H γ' S' H') {d : List D} {v : List V} (h : RpL K T γ (out γ S hid H) d v) : RpL K T γ' (out γ' S' hid H') d v := RpL.mono e.pre (e.sameH hid) d v h
/-- a hidden thing stays -/
theorem Ext.hid {K : PySem.W.Frag} {T : Tab} {γ γ' hid : List Addr} {S S' : Cells} {H H' : Hp} (e : Ext γ S H γ' S' H') (h : Hold K T γ hid S H) {a : Addr} {o : HO} (ha : a ∈ hid) (ho : H a = some o) : H' a = some o := by
  refine (out_some.mp (e.same a o (out_some.mpr ⟨by simp, ?_, ho⟩))).2.2
  cases q : liveAt γ S a with
  | false => rfl
  | true =>
    obtain ⟨n, c, h1, _, _⟩ := liveAt_iff.mp q
    exact absurd (List.mem_of_getElem? h1) (h.hidG a ha)
section
variable {K : PySem.W.Frag} {T : Tab} {γ hid : List Addr} {S : Cells} {H : Hp}
theorem Hold.at (h : Hold K T γ hid S H) {n : Nat} {c : Cell} (e : S[n]? = some c) : ∃ a, γ[n]? = some a := by
  have : n < γ.length := by
    rw [h.len]
    exact (List.getElem?_eq_some_iff.mp e).1
  exact ⟨_, List.getElem?_eq_getElem this⟩
theorem Hold.at' (h : Hold K T γ hid S H) {n : Nat} {a : Addr} (e : γ[n]? = some a) : ∃ c, S[n]? = some c := by
  have : n < S.length := by
    rw [← h.len]
    exact (List.getElem?_eq_some_iff.mp e).1
  exact ⟨_, List.getElem?_eq_getElem this⟩
theorem nd_ix {α : Type} {l : List α} (h : l.Nodup) {i j : Nat} {x : α} (a : l[i]? = some x) (b : l[j]? = some x) : i = j := by
  obtain ⟨h1, e1⟩ := List.getElem?_eq_some_iff.mp a
  obtain ⟨h2, e2⟩ := List.getElem?_eq_some_iff.mp b
  exact (List.getElem_inj h).mp (e1.trans e2.symm)
theorem Hold.live (h : Hold K T γ hid S H) {n : Nat} {a : Addr} {c : Cell} (e : γ[n]? = some a) (q : S[n]? = some c) : liveAt γ S a = c.live := by
  cases z : c.live with
  | true => exact liveAt_iff.mpr ⟨n, c, e, q, z⟩
  | false =>
    cases z2 : liveAt γ S a with
    | false => rfl
    | true =>
      obtain ⟨m, c', h1, h2, h3⟩ := liveAt_iff.mp z2
      have := nd_ix h.nd e h1
      subst this
      rw [q] at h2
      cases h2
      rw [z] at h3
      cases h3
/-- a new thing that is no cell -/
theorem Hold.fresh (h : Hold K T γ hid S H) {p : Addr} (np : H p = none) : p ∉ γ ∧ p ∉ hid := by
  refine ⟨fun hp => ?_, fun hp => h.hidT p hp np⟩
  obtain ⟨n, hn⟩ := List.mem_iff_getElem?.mp hp
  obtain ⟨c, hc⟩ := h.at' hn
  obtain ⟨o, ho, _⟩ := h.cell n p c hn hc
  rw [np] at ho
  cases ho
theorem live_no {b : Addr} (hb : b ∉ γ) : liveAt γ S b = false := by
  cases q : liveAt γ S b with
  | false => rfl
  | true =>
    obtain ⟨n, c, h1, _, _⟩ := liveAt_iff.mp q
    exact absurd (List.mem_of_getElem? h1) hb
theorem Hold.lay (h : Hold K T γ hid S H) {p : Addr} (np : H p = none) (o : HO) : Hold K T γ hid S (upd H p o) ∧ Ext γ S H γ S (upd H p o) ∧ ∀ hd, p ∉ hd → out γ S hd (upd H p o) p = some o := by
  obtain ⟨h1, h2⟩ := h.fresh np
  have sm : ∀ hd, Same (out γ S hd H) (out γ S hd (upd H p o)) := fun hd b u hb => by
    obtain ⟨a1, a2, a3⟩ := out_some.mp hb
    exact out_some.mpr ⟨a1, a2, by rw [upd_ne (ne_of_none a3 np)]; exact a3⟩
  refine ⟨⟨h.len, h.nd, fun n a c e1 e2 => ?_, fun a ha => ?_, h.hidG⟩, ⟨fun _ _ q => q, sm []⟩, fun hd hp => out_some.mpr ⟨hp, live_no h1, upd_same⟩⟩
  · obtain ⟨u, hu, r⟩ := h.cell n a c e1 e2
    exact ⟨u, by rw [upd_ne (ne_of_none hu np)]; exact hu, r.mono (sm hid)⟩
  · have : a ≠ p := fun e => h2 (e ▸ ha)
    rw [upd_ne this]
    exact h.hidT a ha
/-- a new live cell -/
theorem Hold.newCell (h : Hold K T γ hid S H) {p : Addr} (np : H p = none) {c : CC} {o : HO} (r : CRep K T (out γ S hid H) c o) :
    Hold K T (γ ++ [p]) hid (S ++ [⟨true, c⟩]) (upd H p o) ∧ Ext γ S H (γ ++ [p]) (S ++ [⟨true, c⟩]) (upd H p o) := by
  obtain ⟨h1, h2⟩ := h.fresh np
  have lv : ∀ b, b ≠ p → liveAt (γ ++ [p]) (S ++ [⟨true, c⟩]) b = liveAt γ S b := fun b hb => by
    unfold liveAt
    rw [List.zip_append h.len, List.any_append]
    simp [Ne.symm hb]
  have sm : ∀ hd, Same (out γ S hd H) (out (γ ++ [p]) (S ++ [⟨true, c⟩]) hd (upd H p o)) := fun hd b u hb => by
    obtain ⟨a1, a2, a3⟩ := out_some.mp hb
    have ne := ne_of_none a3 np
    exact out_some.mpr ⟨a1, by rw [lv b ne]; exact a2, by rw [upd_ne ne]; exact a3⟩
  refine ⟨⟨by simp [h.len], ?_, fun n a c' e1 e2 => ?_, fun a ha => ?_, fun a ha => ?_⟩, ⟨fun n a q => ?_, sm []⟩⟩
  · rw [List.nodup_append]
    refine ⟨h.nd, by simp, fun a ha b hb e => h1 ?_⟩
    have z : b = p := by simpa using hb
    rw [← z, ← e]
    exact ha
  · by_cases hn : n < γ.length
    · rw [List.getElem?_append_left hn] at e1
      rw [List.getElem?_append_left (by rw [← h.len]; exact hn)] at e2
      obtain ⟨u, hu, r'⟩ := h.cell n a c' e1 e2
      exact ⟨u, by rw [upd_ne (ne_of_none hu np)]; exact hu, r'.mono (sm hid)⟩
    · have hn' : γ.length ≤ n := by omega
      rw [List.getElem?_append_right hn'] at e1
      rw [List.getElem?_append_right (by rw [← h.len]; exact hn')] at e2
      rw [h.len] at e1
      cases q : n - S.length with
      | zero =>
        rw [q] at e1 e2
        cases e1
        cases e2
        exact ⟨o, upd_same, r.mono (sm hid)⟩
      | succ m =>
        rw [q] at e1
        simp at e1
  · have : a ≠ p := fun e => h2 (e ▸ ha)
    rw [upd_ne this]
    exact h.hidT a ha
  · intro hm
    rcases List.mem_append.mp hm with hm | hm
    · exact h.hidG a ha hm
    · have : a = p := by simpa using hm
      exact h2 (this ▸ ha)
  · exact (List.getElem?_append_left (List.getElem?_eq_some_iff.mp q).1).trans q
/-- a live cell is changed -/
theorem Hold.write (h : Hold K T γ hid S H) {n : Nat} {a : Addr} {c c' : CC} {o : HO} (e : γ[n]? = some a) (q : S[n]? = some ⟨true, c⟩) (r : CRep K T (out γ S hid H) c' o) :
    Hold K T γ hid (S.set n ⟨true, c'⟩) (upd H a o) ∧ Ext γ S H γ (S.set n ⟨true, c'⟩) (upd H a o) := by
  have hn : n < S.length := (List.getElem?_eq_some_iff.mp q).1
  have lv : ∀ b, liveAt γ (S.set n ⟨true, c'⟩) b = liveAt γ S b := fun b => by
    apply Bool.eq_iff_iff.mpr
    rw [liveAt_iff, liveAt_iff]
    constructor
    · rintro ⟨m, d, h1, h2, h3⟩
      by_cases hm : n = m
      · subst hm
        exact ⟨n, _, h1, q, rfl⟩
      · rw [List.getElem?_set_ne hm] at h2
        exact ⟨m, d, h1, h2, h3⟩
    · rintro ⟨m, d, h1, h2, h3⟩
      by_cases hm : n = m
      · subst hm
        exact ⟨n, _, h1, List.getElem?_set_self hn, rfl⟩
      · exact ⟨m, d, h1, by rw [List.getElem?_set_ne hm]; exact h2, h3⟩
  have la : liveAt γ S a = true := liveAt_iff.mpr ⟨n, _, e, q, rfl⟩
  have sm : ∀ hd, Same (out γ S hd H) (out γ (S.set n ⟨true, c'⟩) hd (upd H a o)) := fun hd b u hb => by
    obtain ⟨a1, a2, a3⟩ := out_some.mp hb
    have ne : b ≠ a := fun z => by rw [z, la] at a2; cases a2
    exact out_some.mpr ⟨a1, by rw [lv b]; exact a2, by rw [upd_ne ne]; exact a3⟩
  refine ⟨⟨by simp [h.len], h.nd, fun m b d e1 e2 => ?_, fun b hb => ?_, h.hidG⟩, ⟨fun _ _ z => z, sm []⟩⟩
  · by_cases hm : n = m
    · subst hm
      rw [List.getElem?_set_self hn] at e2
      cases e2
      rw [e] at e1
      cases e1
      exact ⟨o, upd_same, r.mono (sm hid)⟩
    · rw [List.getElem?_set_ne hm] at e2
      obtain ⟨u, hu, r'⟩ := h.cell m b d e1 e2
      have ne : b ≠ a := fun z => hm (nd_ix h.nd e (z ▸ e1))
      exact ⟨u, by rw [upd_ne ne]; exact hu, r'.mono (sm hid)⟩
  · by_cases hb' : b = a
    · rw [hb', upd_same]
      simp
    · rw [upd_ne hb']
      exact h.hidT b hb
/-- a cell is frozen -/
theorem Hold.freeze (h : Hold K T γ hid S H) {n : Nat} {b : Bool} {c : CC} (q : S[n]? = some ⟨b, c⟩) : Hold K T γ hid (S.set n ⟨false, c⟩) H ∧ Ext γ S H γ (S.set n ⟨false, c⟩) H := by
  have hn : n < S.length := (List.getElem?_eq_some_iff.mp q).1
  have lv : ∀ b, liveAt γ S b = false → liveAt γ (S.set n ⟨false, c⟩) b = false := fun b hb => by
    cases z : liveAt γ (S.set n ⟨false, c⟩) b with
    | false => rfl
    | true =>
      obtain ⟨m, d, h1, h2, h3⟩ := liveAt_iff.mp z
      by_cases hm : n = m
      · subst hm
        rw [List.getElem?_set_self hn] at h2
        cases h2
        cases h3
      · rw [List.getElem?_set_ne hm] at h2
        rw [liveAt_iff.mpr ⟨m, d, h1, h2, h3⟩] at hb
        cases hb
  have sm : ∀ hd, Same (out γ S hd H) (out γ (S.set n ⟨false, c⟩) hd H) := fun hd b u hb => by
    obtain ⟨a1, a2, a3⟩ := out_some.mp hb
    exact out_some.mpr ⟨a1, lv b a2, a3⟩
  refine ⟨⟨by simp [h.len], h.nd, fun m x d e1 e2 => ?_, h.hidT, h.hidG⟩, ⟨fun _ _ z => z, sm []⟩⟩
  by_cases hm : n = m
  · subst hm
    rw [List.getElem?_set_self hn] at e2
    cases e2
    obtain ⟨u, hu, r'⟩ := h.cell n x _ e1 q
    exact ⟨u, hu, r'.mono (sm hid)⟩
  · rw [List.getElem?_set_ne hm] at e2
    obtain ⟨u, hu, r'⟩ := h.cell m x d e1 e2
    exact ⟨u, hu, r'.mono (sm hid)⟩
theorem getElem?_take_some {α : Type} {l : List α} {k n : Nat} {x : α} (h : (l.take k)[n]? = some x) : l[n]? = some x ∧ n < k := by
  rw [List.getElem?_take] at h
  split at h
  · exact ⟨h, by assumption⟩
  · cases h
/-- the last cells are forgotten: they are no cells any more -/
theorem Hold.cut (h : Hold K T γ hid S H) (k : Nat) : Hold K T (γ.take k) hid (S.take k) H ∧ ∀ hd, Same (out γ S hd H) (out (γ.take k) (S.take k) hd H) := by
  have lv : ∀ b, liveAt γ S b = false → liveAt (γ.take k) (S.take k) b = false := fun b hb => by
    cases z : liveAt (γ.take k) (S.take k) b with
    | false => rfl
    | true =>
      obtain ⟨m, d, h1, h2, h3⟩ := liveAt_iff.mp z
      rw [liveAt_iff.mpr ⟨m, d, (getElem?_take_some h1).1, (getElem?_take_some h2).1, h3⟩] at hb
      cases hb
  have sm : ∀ hd, Same (out γ S hd H) (out (γ.take k) (S.take k) hd H) := fun hd b u hb => by
    obtain ⟨a1, a2, a3⟩ := out_some.mp hb
    exact out_some.mpr ⟨a1, lv b a2, a3⟩
  refine ⟨⟨by simp [h.len], h.nd.sublist (List.take_sublist _ _), fun m x d e1 e2 => ?_, h.hidT, fun a ha hm => h.hidG a ha (List.mem_of_mem_take hm)⟩, sm⟩
  obtain ⟨u, hu, r'⟩ := h.cell m x d (getElem?_take_some e1).1 (getElem?_take_some e2).1
  exact ⟨u, hu, r'.mono (sm hid)⟩
/-- a hidden thing -/
theorem Hold.hide (h : Hold K T γ hid S H) {p : Addr} (np : H p = none) (o : HO) : Hold K T γ (p :: hid) S (upd H p o) ∧ Same (out γ S hid H) (out γ S (p :: hid) (upd H p o)) := by
  obtain ⟨h1, h2⟩ := h.fresh np
  have sm : Same (out γ S hid H) (out γ S (p :: hid) (upd H p o)) := fun b u hb => by
    obtain ⟨a1, a2, a3⟩ := out_some.mp hb
    have ne := ne_of_none a3 np
    exact out_some.mpr ⟨by simp [ne, a1], a2, by rw [upd_ne ne]; exact a3⟩
  refine ⟨⟨h.len, h.nd, fun n a c e1 e2 => ?_, fun a ha => ?_, fun a ha => ?_⟩, sm⟩
  · obtain ⟨u, hu, r⟩ := h.cell n a c e1 e2
    exact ⟨u, by rw [upd_ne (ne_of_none hu np)]; exact hu, r.mono sm⟩
  · by_cases e : a = p
    · rw [e, upd_same]
      simp
    · rw [upd_ne e]
      rcases List.mem_cons.mp ha with z | z
      · exact absurd z e
      · exact h.hidT a z
  · rcases List.mem_cons.mp ha with z | z
    · rw [z]; exact h1
    · exact h.hidG a z
/-- a hidden thing is changed -/
theorem Hold.rewrite (h : Hold K T γ hid S H) {p : Addr} (hp : p ∈ hid) (o : HO) : Hold K T γ hid S (upd H p o) ∧ ∀ b, out γ S hid (upd H p o) b = out γ S hid H b := by
  have sm : ∀ b, out γ S hid (upd H p o) b = out γ S hid H b := fun b => by
    unfold out
    by_cases e : b = p
    · rw [if_pos (by simp [e, hp]), if_pos (by simp [e, hp])]
    · rw [upd_ne e]
  refine ⟨⟨h.len, h.nd, fun n a c e1 e2 => ?_, fun a ha => ?_, h.hidG⟩, sm⟩
  · obtain ⟨u, hu, r⟩ := h.cell n a c e1 e2
    have ne : a ≠ p := fun z => h.hidG p hp (z ▸ List.mem_of_getElem? e1)
    exact ⟨u, by rw [upd_ne ne]; exact hu, r.mono fun b u hb => by rw [sm b]; exact hb⟩
  · by_cases e : a = p
    · rw [e, upd_same]
      simp
    · rw [upd_ne e]
      exact h.hidT a ha
end
end DL
end
section
set_option maxHeartbeats 2000000
/-! DLb: the judgements over data: expressions, tests, arguments, fresh lists, statements. -/
namespace DL
open PySem PySem.Spec L2
open PyProof.Rows hiding St

abbrev En := List (Option D)
structure EnvR (K : PySem.W.Frag) (T : Tab) (γ : List Addr) (F : Hp) (ρ : En) (σ : St) : Prop where
  len : ρ.length = σ.length
  get : ∀ (i : Nat) (d : D), ρ[i]? = some (some d) → ∃ v, σ[i]? = some (some v) ∧ Rp K T γ F d v
theorem EnvR.mono {K : PySem.W.Frag} {T : Tab} {γ γ' : List Addr} {F F' : Hp} {ρ : En} {σ : St} (hg : ∀ (n : Nat) (a : Addr), γ[n]? = some a → γ'[n]? = some a) (hs : Same F F') (e : EnvR K T γ F ρ σ) : EnvR K T γ' F' ρ σ :=
  ⟨e.len, fun i d h => let ⟨v, h1, h2⟩ := e.get i d h; ⟨v, h1, Rp.mono hg hs d v h2⟩⟩
theorem EnvR.set {K : PySem.W.Frag} {T : Tab} {γ : List Addr} {F : Hp} {ρ : En} {σ : St} (e : EnvR K T γ F ρ σ) (i : Nat) {d : D} {v : V} (r : Rp K T γ F d v) : EnvR K T γ F (ρ.set i (some d)) (σ.set i (some v)) := by
  refine ⟨by simp [e.len], fun j d' h => ?_⟩
  by_cases hj : i = j
  · subst hj
    have hi : i < ρ.length := by
      have := (List.getElem?_eq_some_iff.mp h).1
      simpa using this
    rw [List.getElem?_set_self hi] at h
    cases h
    exact ⟨v, List.getElem?_set_self (by rw [← e.len]; exact hi), r⟩
  · rw [List.getElem?_set_ne hj] at h
    obtain ⟨v', h1, h2⟩ := e.get j d' h
    exact ⟨v', by rw [List.getElem?_set_ne hj]; exact h1, h2⟩
/-- the wish about exceptions -/
abbrev XX := Xc → En → List Addr → List Addr → Cells → Hp → St → Prop
def XX0 : XX := fun _ _ _ _ _ _ _ => False

section
variable (K : PySem.W.Frag) (T : Tab) (EE : XX)
/-- what is wanted of a result -/
def resG {α β : Type} (rep : List Addr → Hp → α → β → Prop) (γ hid : List Addr) (S : Cells) (H : Hp) (ρ : En) (σ : St) (r : R α) (Q : β → Hp → Prop) : Prop := match r with
  | .ok a S' => ∀ (γ' : List Addr) (H' : Hp) (b : β), Hold K T γ' hid S' H' → Ext γ S H γ' S' H' → rep γ' (out γ' S' hid H') a b → Q b H'
  | .err x S' => ∀ (γ' : List Addr) (H' : Hp), Hold K T γ' hid S' H' → Ext γ S H γ' S' H' → EE x ρ γ' hid S' H' σ
  | .stuck => False
def dG {α β : Type} (rep : List Addr → Hp → α → β → Prop) (f : En → M α) : St → Hp → (β → Hp → Prop) → Prop := fun σ H Q =>
  ∃ γ hid S ρ, Hold K T γ hid S H ∧ EnvR K T γ (out γ S hid H) ρ σ ∧ resG K T EE rep γ hid S H ρ σ (f ρ S) Q
abbrev repE : List Addr → Hp → D → V → Prop := Rp K T
abbrev repA : List Addr → Hp → List D → List V → Prop := RpL K T
/-- a list's items -/
def repL : List Addr → Hp → List D → List V → Prop := fun γ F l vs => l.length ≤ sizeLine ∧ RpL K T γ F l vs
def repB : List Addr → Hp → Bool → Bool → Prop := fun _ _ a b => a = b
def dE (f : En → M D) : TE := dG K T EE (repE K T) f
def dT (f : En → M Bool) : TT := dG K T EE repB f
def dA (f : En → M (List D)) : TA := dG K T EE (repA K T) f
/-- a new list with these items -/
def dL (f : En → M (List D)) : TE := fun σ H Q => dG K T EE (repL K T) f σ H fun vs H' => ∀ p, H' p = none → Q (.ref p) (upd H' p (.lst vs))
end
section
variable {K : PySem.W.Frag} {T : Tab} {EE : XX}
theorem resG.base {α β : Type} {rep : List Addr → Hp → α → β → Prop} {γ γ1 hid : List Addr} {S S1 : Cells} {H H1 : Hp} {ρ : En} {σ : St} {r : R α} {Q : β → Hp → Prop} (h : resG K T EE rep γ hid S H ρ σ r Q) (e : Ext γ S H γ1 S1 H1) :
    resG K T EE rep γ1 hid S1 H1 ρ σ r Q := by
  cases r with
  | ok a S' => exact fun γ' H' b a1 a2 a3 => h γ' H' b a1 (e.trans a2) a3
  | err x S' => exact fun γ' H' a1 a2 => h γ' H' a1 (e.trans a2)
  | stuck => exact h
theorem resG.imp {α β : Type} {rep : List Addr → Hp → α → β → Prop} {γ hid : List Addr} {S : Cells} {H : Hp} {ρ : En} {σ : St} {r : R α} {Q Q' : β → Hp → Prop} (h : resG K T EE rep γ hid S H ρ σ r Q) (i : ∀ b H', Q b H' → Q' b H') :
    resG K T EE rep γ hid S H ρ σ r Q' := by
  cases r with
  | ok a S' => exact fun γ' H' b a1 a2 a3 => i _ _ (h γ' H' b a1 a2 a3)
  | err x S' => exact h
  | stuck => exact h
/-- one thing, then another -/
theorem bindR {α β α' β' : Type} {rep : List Addr → Hp → α → β → Prop} {rep' : List Addr → Hp → α' → β' → Prop} {γ hid : List Addr} {S : Cells} {H : Hp} {ρ : En} {σ : St} {Q : β' → Hp → Prop} {f : En → M α} {g : α → M α'}
    (hold : Hold K T γ hid S H) (env : EnvR K T γ (out γ S hid H) ρ σ) (h : resG K T EE rep' γ hid S H ρ σ ((M.bind (f ρ) g) S) Q) :
    dG K T EE rep f σ H fun b H1 => ∃ a γ1 S1, Hold K T γ1 hid S1 H1 ∧ Ext γ S H γ1 S1 H1 ∧ EnvR K T γ1 (out γ1 S1 hid H1) ρ σ ∧ rep γ1 (out γ1 S1 hid H1) a b ∧ resG K T EE rep' γ1 hid S1 H1 ρ σ (g a S1) Q := by
  refine ⟨γ, hid, S, ρ, hold, env, ?_⟩
  have h' : resG K T EE rep' γ hid S H ρ σ (match f ρ S with
    | .ok a S' => g a S'
    | .err x S' => .err x S'
    | .stuck => .stuck) Q := h
  cases q : f ρ S with
  | ok a S1 =>
    rw [q] at h'
    exact fun γ1 H1 b a1 a2 a3 => ⟨a, γ1, S1, a1, a2, env.mono a2.pre (a2.sameH hid), a3, h'.base a2⟩
  | err x S1 =>
    rw [q] at h'
    exact h'
  | stuck =>
    rw [q] at h'
    exact h'
theorem bindD {α β α' β' : Type} {rep : List Addr → Hp → α → β → Prop} {rep' : List Addr → Hp → α' → β' → Prop} {H : Hp} {σ : St} {Q : β' → Hp → Prop} {f : En → M α} {g : En → α → M α'}
    (h : dG K T EE rep' (fun ρ => M.bind (f ρ) (g ρ)) σ H Q) :
    dG K T EE rep f σ H fun b H1 => ∃ a γ1 hid S1 ρ, Hold K T γ1 hid S1 H1 ∧ EnvR K T γ1 (out γ1 S1 hid H1) ρ σ ∧ rep γ1 (out γ1 S1 hid H1) a b ∧ resG K T EE rep' γ1 hid S1 H1 ρ σ (g ρ a S1) Q := by
  obtain ⟨γ, hid, S, ρ, hold, env, h⟩ := h
  obtain ⟨γ', hid', S', ρ', h1, h2, h3⟩ := bindR (rep := rep) hold env h
  exact ⟨γ', hid', S', ρ', h1, h2, h3.imp fun b H1 ⟨a, γ1, S1, q1, q2, q3, q4, q5⟩ => ⟨a, γ1, hid, S1, ρ, q1, q3, q4, q5⟩⟩
end

/-- e's value is f -/
structure EvE (X : Cx) (T : Tab) (EE : XX) (e : Expr) (f : En → M D) : Prop where
  pe : PE X e (dE X.K T EE f)
structure EvL (X : Cx) (T : Tab) (EE : XX) (e : Expr) (f : En → M (List D)) : Prop where
  pe : PE X e (dL X.K T EE f)
structure EvT (X : Cx) (T : Tab) (EE : XX) (e : Expr) (f : En → M Bool) : Prop where
  pt : PT X e (dT X.K T EE f)
structure EvW (X : Cx) (T : Tab) (EE : XX) (e : Expr) (f : En → M Bool) : Prop where
  pw : PW X e (dT X.K T EE f)
structure EvA (X : Cx) (T : Tab) (EE : XX) (es : List Expr) (f : En → M (List D)) : Prop where
  pa : PA X es (dA X.K T EE f)
theorem _root_.L2.PE.dimp {X : Cx} {e : Expr} {t t' : TE} (h : PE X e t) (i : ∀ σ H Q, t' σ H Q → t σ H Q) : PE X e t' := ⟨fun pins s σ H Q I q => h.run pins s σ H Q I (i _ _ _ q)⟩
theorem _root_.L2.PT.dimp {X : Cx} {e : Expr} {t t' : TT} (h : PT X e t) (i : ∀ σ H Q, t' σ H Q → t σ H Q) : PT X e t' := ⟨fun pins s σ H Q I q => h.run pins s σ H Q I (i _ _ _ q)⟩
theorem _root_.L2.PW.dimp {X : Cx} {e : Expr} {t t' : TT} (h : PW X e t) (i : ∀ σ H Q, t' σ H Q → t σ H Q) : PW X e t' := ⟨fun w pins s σ H Q I q => h.run w pins s σ H Q I (i _ _ _ q)⟩
theorem _root_.L2.PA.dimp {X : Cx} {e : List Expr} {t t' : TA} (h : PA X e t) (i : ∀ σ H Q, t' σ H Q → t σ H Q) : PA X e t' := ⟨fun p pins s σ H Q I q => h.run p pins s σ H Q I (i _ _ _ q)⟩
theorem _root_.L2.OpR.dimp {X : Cx} {f : Value → Value → Sem Value} {r r' : R2} (h : OpR X f r) (i : ∀ x y H Q, r' x y H Q → r x y H Q) : OpR X f r' := fun pins s σ H x y v u Q I rx ry q => h pins s σ H x y v u Q I rx ry (i _ _ _ _ q)
theorem _root_.L2.CallR.dimp {X : Cx} {f : Value} {r r' : List V → Hp → VK → Prop} (h : CallR X f r) (i : ∀ x H Q, r' x H Q → r x H Q) : CallR X f r' := fun pins s σ H xs us Q I rx q => h pins s σ H xs us Q I rx (i _ _ _ q)

/-! ### steps that raise nothing -/
/-- without a change of the store -/
def M.opt {α : Type} (f : Cells → Option α) : M α := fun S => match f S with
  | some a => .ok a S
  | none => .stuck
/-- with one -/
def M.chg {α : Type} (f : Cells → Option (α × Cells)) : M α := fun S => match f S with
  | some (a, S') => .ok a S'
  | none => .stuck
/-- a value is wanted -/
def okV (K : PySem.W.Frag) (T : Tab) (γ hid : List Addr) (S : Cells) (H : Hp) (d : D) (S' : Cells) (Q : VK) : Prop :=
  ∀ (γ' : List Addr) (H' : Hp) (v : V), Hold K T γ' hid S' H' → Ext γ S H γ' S' H' → Rp K T γ' (out γ' S' hid H') d v → Q v H'
def okL (K : PySem.W.Frag) (T : Tab) (γ hid : List Addr) (S : Cells) (H : Hp) (l : List D) (S' : Cells) (Q : VK) : Prop :=
  ∀ (γ' : List Addr) (H' : Hp) (vs : List V), Hold K T γ' hid S' H' → Ext γ S H γ' S' H' → l.length ≤ sizeLine → RpL K T γ' (out γ' S' hid H') l vs → ∀ p, H' p = none → Q (.ref p) (upd H' p (.lst vs))
section
variable {X : Cx} {T : Tab} {EE : XX} {a b e : Expr} {es : List Expr} {fa fb f : En → M D} {fs : En → M (List D)} {pos : Pos}

theorem bind_of_ok {α β : Type} {f : M α} {g : α → M β} {S S' : Cells} {a : α} (e : f S = .ok a S') : (M.bind (f) g) S = g a S' := by
  unfold M.bind
  rw [e]
theorem bind_of_stuck {α β : Type} {f : M α} {g : α → M β} {S : Cells} (e : f S = .stuck) : (M.bind (f) g) S = .stuck := by
  unfold M.bind
  rw [e]
theorem bind_of_err {α β : Type} {f : M α} {g : α → M β} {S S' : Cells} {x : Xc} (e : f S = .err x S') : (M.bind (f) g) S = .err x S' := by
  unfold M.bind
  rw [e]
theorem opt_some {α : Type} {f : Cells → Option α} {S : Cells} {a : α} (e : f S = some a) : M.opt f S = .ok a S := by
  unfold M.opt
  rw [e]
theorem opt_none {α : Type} {f : Cells → Option α} {S : Cells} (e : f S = none) : M.opt f S = .stuck := by
  unfold M.opt
  rw [e]
/-! ### names and constants -/
def rd (ρ : En) (i : Nat) : M D := fun S => match ρ[i]? with
  | some (some d) => .ok d S
  | _ => .stuck
theorem ev_var (i : Nat) {x : Str} (hN : X.N[i]? = some x) (hv : Vis X.env.scope x) (hd : (x == ("__debug__" : Str)) = false := by decide) (hcd : (x == ("__classdict__" : Str)) = false := by decide) : EvE X T EE (.Name x pos) (fun ρ => rd ρ i) := by
  refine ⟨(pe_var hN hv hd hcd).dimp fun σ H Q h => ?_⟩
  obtain ⟨γ, hid, S, ρ, hold, env, h⟩ := h
  have h : resG X.K T EE (repE X.K T) γ hid S H ρ σ (rd ρ i S) Q := h
  unfold rd at h
  split at h
  · rename_i d hd
    obtain ⟨v, h1, h2⟩ := env.get i d hd
    exact ⟨v, h1, h γ H v hold (Ext.refl _ _ _) h2⟩
  · exact h.elim
def kon (d : D) : M D := fun S => .ok d S
theorem konR {K : PySem.W.Frag} {d : D} {v : V} {σ : St} {H : Hp} {Q : VK} (h : dE K T EE (fun _ => kon d) σ H Q) (r : ∀ γ F, Rp K T γ F d v) : Q v H := by
  obtain ⟨γ, hid, S, ρ, hold, env, h⟩ := h
  exact h γ H v hold (Ext.refl _ _ _) (r _ _)
theorem ev_int {i : Int} {j : Nat} : EvE X T EE (.Constant (.int i) j pos) (fun _ => kon (.int i)) := ⟨pe_int.dimp fun σ H Q h => konR h fun _ _ => .int _⟩
theorem ev_bl {i : Bool} {j : Nat} : EvE X T EE (.Constant (.bool i) j pos) (fun _ => kon (.bl i)) := ⟨pe_bl.dimp fun σ H Q h => konR h fun _ _ => .bl _⟩
theorem ev_non {j : Nat} : EvE X T EE (.Constant .none j pos) (fun _ => kon .non) := ⟨pe_non.dimp fun σ H Q h => konR h fun _ _ => .non⟩
theorem ev_str {i : Str} {j : Nat} (z : i.length ≤ sizeLine) : EvE X T EE (.Constant (.str i) j pos) (fun _ => kon (.str i)) := ⟨pe_str.dimp fun σ H Q h => konR h fun _ _ => .str _ z⟩
/-- a module's int -/
theorem ev_gint {x : Str} {i : Int} {u : Value} (hg : Gl X x) (hm : X.mg x = some u) (r : RelV (.int i) u) (hd : (x == ("__debug__" : Str)) = false := by decide) : EvE X T EE (.Name x pos) (fun _ => kon (.int i)) := ⟨(pe_glob hg hm r hd).dimp fun σ H Q h => konR h fun _ _ => .int _⟩

/-! ### operators -/
/-- an operator by its data function -/
def rO (K : PySem.W.Frag) (T : Tab) (op : D → D → Cells → Option D) : R2 := fun x y H Q => ∃ γ hid S d1 d2 d, Hold K T γ hid S H ∧ Rp K T γ (out γ S hid H) d1 x ∧ Rp K T γ (out γ S hid H) d2 y ∧ op d1 d2 S = some d ∧ okV K T γ hid S H d S Q
def rOL (K : PySem.W.Frag) (T : Tab) (op : D → D → Cells → Option (List D)) : R2 := fun x y H Q => ∃ γ hid S d1 d2 l, Hold K T γ hid S H ∧ Rp K T γ (out γ S hid H) d1 x ∧ Rp K T γ (out γ S hid H) d2 y ∧ op d1 d2 S = some l ∧ okL K T γ hid S H l S Q
theorem opt_ok {K : PySem.W.Frag} {α β : Type} {rep : List Addr → Hp → α → β → Prop} {γ hid : List Addr} {S : Cells} {H : Hp} {ρ : En} {σ : St} {Q : β → Hp → Prop} {f : Cells → Option α} (h : resG K T EE rep γ hid S H ρ σ (M.opt f S) Q) : ∃ a, f S = some a ∧ resG K T EE rep γ hid S H ρ σ (.ok a S) Q := by
  unfold M.opt at h
  split at h
  · rename_i a e
    exact ⟨a, e, h⟩
  · exact h.elim
theorem two {K : PySem.W.Frag} {op : D → D → Cells → Option D} {σ : St} {H : Hp} {Q : VK} (h : dE K T EE (fun ρ => M.bind (fa ρ) fun x => M.bind (fb ρ) fun y => M.opt (op x y)) σ H Q) : tOp (rO K T op) (dE K T EE fa) (dE K T EE fb) σ H Q := by
  refine (show dG K T EE (repE K T) fa σ H _ from ?_)
  obtain ⟨γ, hid, S, ρ, hold, env, h⟩ := h
  obtain ⟨_, _, _, _, h1, h2, h3⟩ := bindR (rep := repE K T) hold env h
  refine ⟨_, _, _, _, h1, h2, h3.imp fun x H1 ⟨d1, γ1, S1, q1, q2, q3, q4, q5⟩ => ?_⟩
  obtain ⟨_, _, _, _, h1, h2, h3⟩ := bindR (rep := repE K T) q1 q3 q5
  refine ⟨_, _, _, _, h1, h2, h3.imp fun y H2 ⟨d2, γ2, S2, w1, w2, w3, w4, w5⟩ => ?_⟩
  obtain ⟨d, e, w5⟩ := opt_ok w5
  exact ⟨γ2, hid, S2, d1, d2, d, w1, w2.rp q4, w4, e, w5⟩
theorem twoL {K : PySem.W.Frag} {op : D → D → Cells → Option (List D)} {σ : St} {H : Hp} {Q : VK} (h : dL K T EE (fun ρ => M.bind (fa ρ) fun x => M.bind (fb ρ) fun y => M.opt (op x y)) σ H Q) : tOp (rOL K T op) (dE K T EE fa) (dE K T EE fb) σ H Q := by
  refine (show dG K T EE (repE K T) fa σ H _ from ?_)
  obtain ⟨γ, hid, S, ρ, hold, env, h⟩ := h
  obtain ⟨_, _, _, _, h1, h2, h3⟩ := bindR (rep := repE K T) hold env h
  refine ⟨_, _, _, _, h1, h2, h3.imp fun x H1 ⟨d1, γ1, S1, q1, q2, q3, q4, q5⟩ => ?_⟩
  obtain ⟨_, _, _, _, h1, h2, h3⟩ := bindR (rep := repE K T) q1 q3 q5
  refine ⟨_, _, _, _, h1, h2, h3.imp fun y H2 ⟨d2, γ2, S2, w1, w2, w3, w4, w5⟩ => ?_⟩
  obtain ⟨d, e, w5⟩ := opt_ok w5
  exact ⟨γ2, hid, S2, d1, d2, d, w1, w2.rp q4, w4, e, fun γ' H' vs c1 c2 z c3 => w5 γ' H' vs c1 c2 ⟨z, c3⟩⟩
theorem ev_bin {o : Operator} {op : D → D → Cells → Option D} (ho : OpR X (binaryOp o) (rO X.K T op)) (ha : EvE X T EE a fa) (hb : EvE X T EE b fb) : EvE X T EE (.BinOp a o b pos) (fun ρ => M.bind (fa ρ) fun x => M.bind (fb ρ) fun y => M.opt (op x y)) :=
  ⟨(pe_op ho ha.pe hb.pe).dimp fun σ H Q h => two h⟩
theorem evL_bin {o : Operator} {op : D → D → Cells → Option (List D)} (ho : OpR X (binaryOp o) (rOL X.K T op)) (ha : EvE X T EE a fa) (hb : EvE X T EE b fb) : EvL X T EE (.BinOp a o b pos) (fun ρ => M.bind (fa ρ) fun x => M.bind (fb ρ) fun y => M.opt (op x y)) :=
  ⟨(pe_op ho ha.pe hb.pe).dimp fun σ H Q h => twoL h⟩
theorem ev_cmp {o : CmpOp} {op : D → D → Cells → Option D} (ho : OpR X (compareOp o) (rO X.K T op)) (hm : behindInMarks o b = false) (ha : EvE X T EE a fa) (hb : EvE X T EE b fb) : EvE X T EE (.Compare a [o] [b] pos) (fun ρ => M.bind (fa ρ) fun x => M.bind (fb ρ) fun y => M.opt (op x y)) :=
  ⟨(pe_cmpR ho ha.pe hb.pe hm).dimp fun σ H Q h => two h⟩
def rU (K : PySem.W.Frag) (T : Tab) (op : D → Cells → Option D) : V → Hp → VK → Prop := fun x H Q => ∃ γ hid S d1 d, Hold K T γ hid S H ∧ Rp K T γ (out γ S hid H) d1 x ∧ op d1 S = some d ∧ okV K T γ hid S H d S Q
theorem one {K : PySem.W.Frag} {op : D → Cells → Option D} {σ : St} {H : Hp} {Q : VK} (h : dE K T EE (fun ρ => M.bind (fa ρ) fun x => M.opt (op x)) σ H Q) : tUn (rU K T op) (dE K T EE fa) σ H Q := by
  refine (show dG K T EE (repE K T) fa σ H _ from ?_)
  obtain ⟨_, _, _, _, h1, h2, h3⟩ := bindD (rep := repE K T) h
  refine ⟨_, _, _, _, h1, h2, h3.imp fun x H1 ⟨d1, γ1, hid, S1, ρ, q1, q3, q4, q5⟩ => ?_⟩
  obtain ⟨d, e, w5⟩ := opt_ok q5
  exact ⟨γ1, hid, S1, d1, d, q1, q4, e, w5⟩
theorem ev_un {o : UnaryOp} {op : D → Cells → Option D} (ho : UnR X (unaryOp o) (rU X.K T op)) (ha : EvE X T EE a fa) : EvE X T EE (.UnaryOp o a pos) (fun ρ => M.bind (fa ρ) fun x => M.opt (op x)) :=
  ⟨(pe_un ho ha.pe).dimp fun σ H Q h => one h⟩

/-! ### tests -/
/-- a value's truth -/
def truD : D → Cells → Option Bool
  | .non, _ => some false
  | .bl b, _ => some b
  | .int i, _ => some (i != 0)
  | .str y, _ => some ((y.length : Int) != 0)
  | .tup l, _ => some (!l.isEmpty)
  | .lst l, _ => some (!l.isEmpty)
  | .ref n, S => match S[n]? with
    | some ⟨_, .lst l⟩ => some (!l.isEmpty)
    | _ => none
  | .obj _ _, _ => none
theorem isEmpty_rep {K : PySem.W.Frag} {γ : List Addr} {F : Hp} {ds : List D} {vs : List V} (h : RpL K T γ F ds vs) : (!ds.isEmpty) = !vs.isEmpty := by
  cases h <;> rfl
/-- a cell that is a list -/
theorem Hold.list {K : PySem.W.Frag} {γ hid : List Addr} {S : Cells} {H : Hp} (h : Hold K T γ hid S H) {n : Nat} {a : Addr} {b : Bool} {l : List D} (e : γ[n]? = some a) (q : S[n]? = some ⟨b, .lst l⟩) : ∃ vs, H a = some (.lst vs) ∧ l.length ≤ sizeLine ∧ RpL K T [] (out γ S hid H) l vs := by
  obtain ⟨o, h1, h2⟩ := h.cell n a _ e q
  cases h2 with
  | lst z r => exact ⟨_, h1, z, r⟩
theorem truD_ok {K : PySem.W.Frag} {γ hid : List Addr} {S : Cells} {H : Hp} {d : D} {v : V} {k : Bool} (h : Hold K T γ hid S H) (r : Rp K T γ (out γ S hid H) d v) (e : truD d S = some k) : TruV K v H k := by
  cases r with
  | non => cases e; rfl
  | bl b => cases e; rfl
  | int i => cases e; rfl
  | str x z =>
    cases e
    exact ⟨z, rfl⟩
  | lst a z b =>
    cases e
    exact .inl ⟨_, (out_sub _ _ _ _).seq a, isEmpty_rep b⟩
  | tup a z b =>
    cases e
    exact .inr (.inl ⟨_, same_seqT (out_sub _ _ _ _) a, isEmpty_rep b⟩)
  | ref a =>
    rename_i n _
    have e : (match S[n]? with
      | some ⟨_, .lst l⟩ => some (!l.isEmpty)
      | _ => none) = some k := e
    split at e
    · rename_i q
      cases e
      obtain ⟨vs, h1, _, h2⟩ := h.list a q
      exact .inl ⟨_, SqL.of h1, isEmpty_rep h2⟩
    · cases e
  | obj a b c => cases e
theorem ev_truth (ha : EvE X T EE a fa) (he : ∀ whole, isTrue a X.env whole = (do let v ← whole; standAt a.pos; holding [v] (truthy v))) : EvT X T EE a (fun ρ => M.bind (fa ρ) fun x => M.opt (truD x)) := by
  refine ⟨(pt_truth ha.pe he).dimp fun σ H Q h => ?_⟩
  refine (show dG X.K T EE (repE X.K T) fa σ H _ from ?_)
  obtain ⟨_, _, _, _, h1, h2, h3⟩ := bindD (rep := repE X.K T) h
  refine ⟨_, _, _, _, h1, h2, h3.imp fun x H1 ⟨d1, γ1, hid, S1, ρ, q1, q3, q4, q5⟩ => ?_⟩
  obtain ⟨d, e, w5⟩ := opt_ok q5
  exact ⟨d, truD_ok q1 q4 e, w5 γ1 H1 d q1 (Ext.refl _ _ _) rfl⟩
def asB : D → Option Bool
  | .bl b => some b
  | _ => none
theorem asB_ok {K : PySem.W.Frag} {γ : List Addr} {F : Hp} {d : D} {v : V} {k : Bool} (r : Rp K T γ F d v) (e : asB d = some k) : d = .bl k ∧ v = .bl k := by
  cases r <;> cases e
  exact ⟨rfl, rfl⟩
/-- a comparison as a test -/
theorem ev_cmpT {o : CmpOp} {op : D → D → Cells → Option D} (ho : OpR X (compareOp o) (rO X.K T op)) (hm : behindInMarks o b = false) (ha : EvE X T EE a fa) (hb : EvE X T EE b fb) :
    EvT X T EE (.Compare a [o] [b] pos) (fun ρ => M.bind (fa ρ) fun x => M.bind (fb ρ) fun y => M.opt (fun S => (op x y S).bind asB)) := by
  refine ⟨(pt_cmpR ho ha.pe hb.pe hm).dimp fun σ H Q h => ?_⟩
  refine (show dG X.K T EE (repE X.K T) fa σ H _ from ?_)
  obtain ⟨γ, hid, S, ρ, hold, env, h⟩ := h
  obtain ⟨_, _, _, _, h1, h2, h3⟩ := bindR (rep := repE X.K T) hold env h
  refine ⟨_, _, _, _, h1, h2, h3.imp fun x H1 ⟨d1, γ1, S1, q1, q2, q3, q4, q5⟩ => ?_⟩
  obtain ⟨_, _, _, _, h1, h2, h3⟩ := bindR (rep := repE X.K T) q1 q3 q5
  refine ⟨_, _, _, _, h1, h2, h3.imp fun y H2 ⟨d2, γ2, S2, w1, w2, w3, w4, w5⟩ => ?_⟩
  obtain ⟨k, e, w5⟩ := opt_ok w5
  cases q : op d1 d2 S2 with
  | none =>
    rw [q] at e
    cases e
  | some d =>
    rw [q] at e
    have e' : asB d = some k := e
    refine ⟨γ2, hid, S2, d1, d2, d, w1, w2.rp q4, w4, q, fun γ' H' v c1 c2 c3 => ?_⟩
    cases c3 with
    | bl b =>
      cases e'
      exact ⟨_, rfl, w5 γ' H' _ c1 c2 rfl⟩
    | _ => cases e'
/-- a < b < c -/
theorem ev_chainT {c : Expr} {fc : En → M D} {o o' : CmpOp} {op op' : D → D → Cells → Option D} (ho : OpR X (compareOp o) (rO X.K T op)) (ho' : OpR X (compareOp o') (rO X.K T op')) (ha : EvE X T EE a fa) (hb : EvE X T EE b fb) (hc : EvE X T EE c fc) (hm : lastMarks [o, o'] [b, c] = false := by rfl) :
    EvE X T EE (.Compare a [o, o'] [b, c] pos) (fun ρ => M.bind (fa ρ) fun x => M.bind (fb ρ) fun y => M.bind (M.opt (fun S => (op x y S).bind asB)) fun k => if k = true then (M.bind (fc ρ) fun z => M.opt (op' y z)) else kon (.bl false)) := by
  refine ⟨(pe_chain ho ho' ha.pe hb.pe hc.pe hm).dimp fun σ H Q h => ?_⟩
  refine (show dG X.K T EE (repE X.K T) fa σ H _ from ?_)
  obtain ⟨γ, hid, S, ρ, hold, env, h⟩ := h
  obtain ⟨_, _, _, _, h1, h2, h3⟩ := bindR (rep := repE X.K T) hold env h
  refine ⟨_, _, _, _, h1, h2, h3.imp fun x H1 ⟨d1, γ1, S1, q1, q2, q3, q4, q5⟩ => ?_⟩
  obtain ⟨_, _, _, _, h1, h2, h3⟩ := bindR (rep := repE X.K T) q1 q3 q5
  refine ⟨_, _, _, _, h1, h2, h3.imp fun y H2 ⟨d2, γ2, S2, w1, w2, w3, w4, w5⟩ => ?_⟩
  cases q : op d1 d2 S2 with
  | none =>
    rw [bind_of_stuck (opt_none (by rw [q]; rfl))] at w5
    exact w5.elim
  | some d =>
    cases q2 : asB d with
    | none =>
      rw [bind_of_stuck (opt_none (by rw [q]; exact q2))] at w5
      exact w5.elim
    | some k =>
      rw [bind_of_ok (opt_some (a := k) (by rw [q]; exact q2))] at w5
      refine ⟨γ2, hid, S2, d1, d2, d, w1, w2.rp q4, w4, q, fun γ' H' v c1 c2 c3 => ?_⟩
      obtain ⟨rfl, rfl⟩ := asB_ok c3 q2
      refine ⟨k, rfl, ?_⟩
      have env3 := w3.mono c2.pre (c2.sameH hid)
      have w6 := w5.base c2
      cases hk : k with
      | true =>
        rw [if_pos hk] at w6
        rw [if_pos rfl]
        obtain ⟨_, _, _, _, h1, h2, h3⟩ := bindR (rep := repE X.K T) (f := fc) c1 env3 w6
        refine ⟨_, _, _, _, h1, h2, h3.imp fun z H3 ⟨d3, γ3, S3, u1, u2, u3, u4, u5⟩ => ?_⟩
        obtain ⟨d', e, u5⟩ := opt_ok u5
        exact ⟨γ3, hid, S3, d2, d3, d', u1, u2.rp (c2.rp w4), u4, e, u5⟩
      | false =>
        rw [if_neg (by rw [hk]; exact Bool.false_ne_true)] at w6
        rw [if_neg Bool.false_ne_true]
        exact w6 γ' H' _ c1 (Ext.refl _ _ _) (.bl _)
/-- a value that is True or False, as a test -/
theorem ev_val (ha : EvE X T EE a fa) (he : ∀ whole, isTrue a X.env whole = (do let v ← whole; standAt a.pos; holding [v] (truthy v)) := by intro _; rfl) : EvT X T EE a (fun ρ => M.bind (fa ρ) fun x => M.opt (truD x)) := ev_truth ha he

/-! ### and, or, not as tests -/
variable {ta tb : En → M Bool} {rest : List Expr}
theorem evw_and1 (ha : EvT X T EE a ta) : EvW X T EE (.BoolOp .And [a] pos) ta := ⟨pw_and1 ha.pt⟩
theorem evw_or1 (ha : EvT X T EE a ta) : EvW X T EE (.BoolOp .Or [a] pos) ta := ⟨pw_or1 ha.pt⟩
def andM (x : M Bool) (y : M Bool) : M Bool := M.bind (x) fun c => if c = true then y else fun S => .ok false S
def orM (x : M Bool) (y : M Bool) : M Bool := M.bind (x) fun c => if c = true then fun S => .ok true S else y
theorem evw_and (ha : EvT X T EE a ta) (hb : EvW X T EE (.BoolOp .And (b :: rest) pos) tb) : EvW X T EE (.BoolOp .And (a :: b :: rest) pos) (fun ρ => andM (ta ρ) (tb ρ)) := by
  refine ⟨(pw_and ha.pt hb.pw).dimp fun σ H Q h => ?_⟩
  refine (show dG X.K T EE repB ta σ H _ from ?_)
  obtain ⟨_, _, _, _, h1, h2, h3⟩ := bindD (rep := repB) h
  refine ⟨_, _, _, _, h1, h2, h3.imp fun c H1 ⟨k, γ1, hid, S1, ρ, q1, q3, q4, q5⟩ => ?_⟩
  have q4' : k = c := q4
  subst q4'
  cases k with
  | true =>
    rw [if_pos rfl] at q5
    rw [if_pos rfl]
    exact ⟨γ1, hid, S1, ρ, q1, q3, q5⟩
  | false => exact q5 γ1 H1 false q1 (Ext.refl _ _ _) rfl
theorem evw_or (ha : EvT X T EE a ta) (hb : EvW X T EE (.BoolOp .Or (b :: rest) pos) tb) : EvW X T EE (.BoolOp .Or (a :: b :: rest) pos) (fun ρ => orM (ta ρ) (tb ρ)) := by
  refine ⟨(pw_or ha.pt hb.pw).dimp fun σ H Q h => ?_⟩
  refine (show dG X.K T EE repB ta σ H _ from ?_)
  obtain ⟨_, _, _, _, h1, h2, h3⟩ := bindD (rep := repB) h
  refine ⟨_, _, _, _, h1, h2, h3.imp fun c H1 ⟨k, γ1, hid, S1, ρ, q1, q3, q4, q5⟩ => ?_⟩
  have q4' : k = c := q4
  subst q4'
  cases k with
  | false =>
    rw [if_neg Bool.false_ne_true] at q5
    rw [if_neg Bool.false_ne_true]
    exact ⟨γ1, hid, S1, ρ, q1, q3, q5⟩
  | true => exact q5 γ1 H1 true q1 (Ext.refl _ _ _) rfl
theorem evt_of (h : EvW X T EE a ta) : EvT X T EE a ta := ⟨h.pw.pt⟩
theorem evt_not (ha : EvT X T EE a ta) : EvT X T EE (.UnaryOp .Not a pos) (fun ρ => M.bind (ta ρ) fun c S => .ok (!c) S) := by
  refine ⟨(pt_not ha.pt).dimp fun σ H Q h => ?_⟩
  refine (show dG X.K T EE repB ta σ H _ from ?_)
  obtain ⟨_, _, _, _, h1, h2, h3⟩ := bindD (rep := repB) h
  refine ⟨_, _, _, _, h1, h2, h3.imp fun c H1 ⟨k, γ1, hid, S1, ρ, q1, q3, q4, q5⟩ => ?_⟩
  have q4' : k = c := q4
  subst q4'
  exact q5 γ1 H1 _ q1 (Ext.refl _ _ _) rfl
/-- .. as values -/
theorem ev_one {op : BoolOp} (h : EvE X T EE a fa) : EvE X T EE (.BoolOp op [a] pos) fa := ⟨pe_one h.pe⟩
def andE (x : M D) (y : M D) : M D := M.bind (x) fun d => M.bind (M.opt (fun _ => asB d)) fun c => if c = true then y else kon (.bl false)
def orE (x : M D) (y : M D) : M D := M.bind (x) fun d => M.bind (M.opt (fun _ => asB d)) fun c => if c = true then kon (.bl true) else y
theorem optB {K : PySem.W.Frag} {α β : Type} {rep : List Addr → Hp → α → β → Prop} {γ hid : List Addr} {S : Cells} {H : Hp} {ρ : En} {σ : St} {Q : β → Hp → Prop} {d : D} {g : Bool → M α} (h : resG K T EE rep γ hid S H ρ σ ((M.bind (M.opt (fun _ => asB d)) g) S) Q) : ∃ k, asB d = some k ∧ resG K T EE rep γ hid S H ρ σ (g k S) Q := by
  cases q : asB d with
  | none =>
    unfold M.opt M.bind at h
    simp only [q] at h
    exact h.elim
  | some k =>
    unfold M.opt M.bind at h
    simp only [q] at h
    exact ⟨k, rfl, h⟩
theorem ev_and (ha : EvE X T EE a fa) (hb : EvE X T EE (.BoolOp .And (b :: rest) pos) fb) : EvE X T EE (.BoolOp .And (a :: b :: rest) pos) (fun ρ => andE (fa ρ) (fb ρ)) := by
  refine ⟨(pe_and ha.pe hb.pe).dimp fun σ H Q h => ?_⟩
  refine (show dG X.K T EE (repE X.K T) fa σ H _ from ?_)
  obtain ⟨_, _, _, _, h1, h2, h3⟩ := bindD (rep := repE X.K T) h
  refine ⟨_, _, _, _, h1, h2, h3.imp fun c H1 ⟨d, γ1, hid, S1, ρ, q1, q3, q4, q5⟩ => ?_⟩
  obtain ⟨k, e, q6⟩ := optB q5
  clear q5
  obtain ⟨rfl, rfl⟩ := asB_ok q4 e
  refine ⟨k, rfl, ?_⟩
  cases k with
  | true =>
    rw [if_pos rfl] at q6
    rw [if_pos rfl]
    exact ⟨γ1, hid, S1, ρ, q1, q3, q6⟩
  | false => exact q6 γ1 H1 _ q1 (Ext.refl _ _ _) (.bl _)
theorem ev_or (ha : EvE X T EE a fa) (hb : EvE X T EE (.BoolOp .Or (b :: rest) pos) fb) : EvE X T EE (.BoolOp .Or (a :: b :: rest) pos) (fun ρ => orE (fa ρ) (fb ρ)) := by
  refine ⟨(pe_or ha.pe hb.pe).dimp fun σ H Q h => ?_⟩
  refine (show dG X.K T EE (repE X.K T) fa σ H _ from ?_)
  obtain ⟨_, _, _, _, h1, h2, h3⟩ := bindD (rep := repE X.K T) h
  refine ⟨_, _, _, _, h1, h2, h3.imp fun c H1 ⟨d, γ1, hid, S1, ρ, q1, q3, q4, q5⟩ => ?_⟩
  obtain ⟨k, e, q6⟩ := optB q5
  clear q5
  obtain ⟨rfl, rfl⟩ := asB_ok q4 e
  refine ⟨k, rfl, ?_⟩
  cases k with
  | false =>
    rw [if_neg Bool.false_ne_true] at q6
    rw [if_neg Bool.false_ne_true]
    exact ⟨γ1, hid, S1, ρ, q1, q3, q6⟩
  | true => exact q6 γ1 H1 _ q1 (Ext.refl _ _ _) (.bl _)
theorem ev_not (ha : EvE X T EE a fa) : EvE X T EE (.UnaryOp .Not a pos) (fun ρ => M.bind (fa ρ) fun d => M.bind (M.opt (fun _ => asB d)) fun c => kon (.bl (!c))) := by
  refine ⟨(pe_not ha.pe).dimp fun σ H Q h => ?_⟩
  refine (show dG X.K T EE (repE X.K T) fa σ H _ from ?_)
  obtain ⟨_, _, _, _, h1, h2, h3⟩ := bindD (rep := repE X.K T) h
  refine ⟨_, _, _, _, h1, h2, h3.imp fun c H1 ⟨d, γ1, hid, S1, ρ, q1, q3, q4, q5⟩ => ?_⟩
  obtain ⟨k, e, q6⟩ := optB q5
  clear q5
  obtain ⟨rfl, rfl⟩ := asB_ok q4 e
  exact ⟨k, rfl, q6 γ1 H1 _ q1 (Ext.refl _ _ _) (.bl _)⟩
theorem ev_ifExp {c : Expr} (hc : EvT X T EE c ta) (ha : EvE X T EE a fa) (hb : EvE X T EE b fb) : EvE X T EE (.IfExp c a b pos) (fun ρ => M.bind (ta ρ) fun k => if k = true then fa ρ else fb ρ) := by
  refine ⟨(pe_ifExp hc.pt ha.pe hb.pe).dimp fun σ H Q h => ?_⟩
  refine (show dG X.K T EE repB ta σ H _ from ?_)
  obtain ⟨_, _, _, _, h1, h2, h3⟩ := bindD (rep := repB) h
  refine ⟨_, _, _, _, h1, h2, h3.imp fun c H1 ⟨k, γ1, hid, S1, ρ, q1, q3, q4, q5⟩ => ?_⟩
  have q4' : k = c := q4
  subst q4'
  cases k with
  | true =>
    rw [if_pos rfl] at q5
    rw [if_pos rfl]
    exact ⟨γ1, hid, S1, ρ, q1, q3, q5⟩
  | false =>
    rw [if_neg Bool.false_ne_true] at q5
    rw [if_neg Bool.false_ne_true]
    exact ⟨γ1, hid, S1, ρ, q1, q3, q5⟩
theorem evL_ifExp {c : Expr} {la lb : En → M (List D)} (hc : EvT X T EE c ta) (ha : EvL X T EE a la) (hb : EvL X T EE b lb) : EvL X T EE (.IfExp c a b pos) (fun ρ => M.bind (ta ρ) fun k => if k = true then la ρ else lb ρ) := by
  refine ⟨(pe_ifExp hc.pt ha.pe hb.pe).dimp fun σ H Q h => ?_⟩
  refine (show dG X.K T EE repB ta σ H _ from ?_)
  obtain ⟨_, _, _, _, h1, h2, h3⟩ := bindD (rep := repB) h
  refine ⟨_, _, _, _, h1, h2, h3.imp fun c H1 ⟨k, γ1, hid, S1, ρ, q1, q3, q4, q5⟩ => ?_⟩
  have q4' : k = c := q4
  subst q4'
  cases k with
  | true =>
    rw [if_pos rfl] at q5
    rw [if_pos rfl]
    exact ⟨γ1, hid, S1, ρ, q1, q3, q5⟩
  | false =>
    rw [if_neg Bool.false_ne_true] at q5
    rw [if_neg Bool.false_ne_true]
    exact ⟨γ1, hid, S1, ρ, q1, q3, q5⟩

/-! ### arguments, tuples, lists -/
theorem ea_nil : EvA X T EE [] (fun _ S => .ok [] S) := ⟨pa_nil.dimp fun σ H Q h => by
  obtain ⟨γ, hid, S, ρ, hold, env, h⟩ := h
  exact h γ H [] hold (Ext.refl _ _ _) .nil⟩
def consM (x : M D) (y : M (List D)) : M (List D) := M.bind (x) fun d => M.bind (y) fun l S => .ok (d :: l) S
theorem ea_cons (ha : EvE X T EE e f) (hr : EvA X T EE es fs) (hs : starEach (e :: es) X.env = (false, eval e X.env) :: starEach es X.env := by rfl) : EvA X T EE (e :: es) (fun ρ => consM (f ρ) (fs ρ)) := by
  refine ⟨(pa_cons ha.pe hr.pa hs).dimp fun σ H Q h => ?_⟩
  refine (show dG X.K T EE (repE X.K T) f σ H _ from ?_)
  obtain ⟨γ, hid, S, ρ, hold, env, h⟩ := h
  obtain ⟨_, _, _, _, h1, h2, h3⟩ := bindR (rep := repE X.K T) hold env h
  refine ⟨_, _, _, _, h1, h2, h3.imp fun x H1 ⟨d1, γ1, S1, q1, q2, q3, q4, q5⟩ => ?_⟩
  obtain ⟨_, _, _, _, h1, h2, h3⟩ := bindR (rep := repA X.K T) q1 q3 q5
  refine ⟨_, _, _, _, h1, h2, h3.imp fun y H2 ⟨d2, γ2, S2, w1, w2, w3, w4, w5⟩ => ?_⟩
  exact w5 γ2 H2 _ w1 (Ext.refl _ _ _) (.cons (w2.rp q4) w4)
/-- a tuple, few items -/
theorem ev_tup {x1 : Nat} (h : EvA X T EE es fs) : EvE X T EE (.Tuple es x1 pos) (fun ρ => M.bind (fs ρ) fun l => M.opt fun _ => if l.length ≤ sizeLine then some (.tup l) else none) := by
  refine ⟨(pe_tup h.pa).dimp fun σ H Q h => ?_⟩
  refine (show dG X.K T EE (repA X.K T) fs σ H _ from ?_)
  obtain ⟨_, _, _, _, h1, h2, h3⟩ := bindD (rep := repA X.K T) h
  refine ⟨_, _, _, _, h1, h2, h3.imp fun vs H1 ⟨l, γ1, hid, S1, ρ, q1, q3, q4, q5⟩ => ?_⟩
  obtain ⟨d, e, w5⟩ := opt_ok q5
  split at e
  · cases e
    refine ⟨by rw [← q4.length]; assumption, fun p np => ?_⟩
    obtain ⟨a1, a2, a3⟩ := q1.lay np (.tup vs)
    exact w5 γ1 _ _ a1 a2 (.tup (SqT.of (a3 hid (q1.fresh np).2)) (by assumption) (a2.rpl q4))
  · cases e
theorem evL_lst (h : EvA X T EE es fs) : EvL X T EE (.List es pos) (fun ρ => M.bind (fs ρ) fun l => M.opt fun _ => if l.length ≤ sizeLine then some l else none) := by
  refine ⟨(pe_lst h.pa).dimp fun σ H Q h => ?_⟩
  refine (show dG X.K T EE (repA X.K T) fs σ H _ from ?_)
  obtain ⟨_, _, _, _, h1, h2, h3⟩ := bindD (rep := repA X.K T) h
  refine ⟨_, _, _, _, h1, h2, h3.imp fun vs H1 ⟨l, γ1, hid, S1, ρ, q1, q3, q4, q5⟩ => ?_⟩
  obtain ⟨d, e, w5⟩ := opt_ok q5
  split at e
  · cases e
    refine ⟨by rw [← q4.length]; assumption, fun p np => ?_⟩
    exact w5 γ1 H1 vs q1 (Ext.refl _ _ _) ⟨by assumption, q4⟩ p np
  · cases e
/-- a new list, frozen -/
theorem ev_frz {fl : En → M (List D)} (h : EvL X T EE e fl) : EvE X T EE e (fun ρ => M.bind (fl ρ) fun l => kon (.lst l)) := by
  refine ⟨h.pe.dimp fun σ H Q h => ?_⟩
  refine (show dG X.K T EE (repL X.K T) fl σ H _ from ?_)
  obtain ⟨_, _, _, _, h1, h2, h3⟩ := bindD (rep := repL X.K T) h
  refine ⟨_, _, _, _, h1, h2, h3.imp fun vs H1 ⟨l, γ1, hid, S1, ρ, q1, q3, q4, q5⟩ p np => ?_⟩
  obtain ⟨a1, a2, a3⟩ := q1.lay np (.lst vs)
  exact q5 γ1 _ _ a1 a2 (.lst (SqL.of (a3 hid (q1.fresh np).2)) q4.1 (a2.rpl q4.2))
/-- a new list, a cell -/
def newC (l : List D) : M D := M.chg fun S => if flatL l = true then some (.ref S.length, S ++ [⟨true, .lst l⟩]) else none
theorem ev_cell {fl : En → M (List D)} (h : EvL X T EE e fl) : EvE X T EE e (fun ρ => M.bind (fl ρ) newC) := by
  refine ⟨h.pe.dimp fun σ H Q h => ?_⟩
  refine (show dG X.K T EE (repL X.K T) fl σ H _ from ?_)
  obtain ⟨_, _, _, _, h1, h2, h3⟩ := bindD (rep := repL X.K T) h
  refine ⟨_, _, _, _, h1, h2, h3.imp fun vs H1 ⟨l, γ1, hid, S1, ρ, q1, q3, q4, q5⟩ p np => ?_⟩
  unfold newC M.chg at q5
  by_cases fl : flatL l = true
  · simp only [if_pos fl] at q5
    obtain ⟨a1, a2⟩ := q1.newCell np (.lst q4.1 (RpL.toflat _ _ fl q4.2))
    refine q5 _ _ _ a1 a2 (.ref ?_)
    rw [← q1.len, List.getElem?_append_right (Nat.le_refl _), Nat.sub_self]
    rfl
  · simp only [if_neg fl] at q5
    exact q5.elim
/-- a cell that is read from now on -/
def fzM (d : D) : M D := M.chg fun S => match d with
  | .ref n => match S[n]? with
    | some ⟨_, .lst l⟩ => some (.lst l, S.set n ⟨false, .lst l⟩)
    | _ => none
  | d => some (d, S)
theorem Hold.fz {K : PySem.W.Frag} {γ hid : List Addr} {S S' : Cells} {H : Hp} {d d' : D} {v : V} (h : Hold K T γ hid S H) (r : Rp K T γ (out γ S hid H) d v) (e : fzM d S = .ok d' S') : Hold K T γ hid S' H ∧ Ext γ S H γ S' H ∧ Rp K T γ (out γ S' hid H) d' v := by
  unfold fzM M.chg at e
  cases r with
  | ref a =>
    rename_i n a'
    cases q : S[n]? with
    | none => simp [q] at e
    | some c =>
      obtain ⟨b, c⟩ := c
      cases c with
      | lst l =>
        simp only [q] at e
        cases e
        obtain ⟨a1, a2⟩ := h.freeze q
        obtain ⟨vs, h1, z, h2⟩ := h.list a q
        refine ⟨a1, a2, .lst (SqL.of (out_some.mpr ⟨fun z => h.hidG _ z (List.mem_of_getElem? a), ?_, h1⟩)) z ((RpL.nil_any (a2.sameH hid) h2))⟩
        exact a1.live a (List.getElem?_set_self (List.getElem?_eq_some_iff.mp q).1)
      | ins k fs => simp [q] at e
  | non => cases e; exact ⟨h, Ext.refl _ _ _, .non⟩
  | bl b => cases e; exact ⟨h, Ext.refl _ _ _, .bl b⟩
  | int i => cases e; exact ⟨h, Ext.refl _ _ _, .int i⟩
  | str x z => cases e; exact ⟨h, Ext.refl _ _ _, .str x z⟩
  | lst a z b => cases e; exact ⟨h, Ext.refl _ _ _, .lst a z b⟩
  | tup a z b => cases e; exact ⟨h, Ext.refl _ _ _, .tup a z b⟩
  | obj a b c => cases e; exact ⟨h, Ext.refl _ _ _, .obj a b c⟩
theorem fzM_noerr {d : D} {S S' : Cells} {x : Xc} : fzM d S ≠ .err x S' := by
  unfold fzM M.chg
  split <;> simp
theorem ev_fz (h : EvE X T EE e f) : EvE X T EE e (fun ρ => M.bind (f ρ) fzM) := by
  refine ⟨h.pe.dimp fun σ H Q h => ?_⟩
  refine (show dG X.K T EE (repE X.K T) f σ H _ from ?_)
  obtain ⟨_, _, _, _, h1, h2, h3⟩ := bindD (rep := repE X.K T) h
  refine ⟨_, _, _, _, h1, h2, h3.imp fun v H1 ⟨d, γ1, hid, S1, ρ, q1, q3, q4, q5⟩ => ?_⟩
  cases q : fzM d S1 with
  | ok d' S' =>
    rw [q] at q5
    obtain ⟨a1, a2, a3⟩ := q1.fz q4 q
    exact q5 _ _ _ a1 a2 a3
  | err x S' => exact absurd q fzM_noerr
  | stuck =>
    rw [q] at q5
    exact q5.elim
end

/-! ### statements -/
inductive Out where
  | nx (ρ : En) (S : Cells) | rt (d : D) (S : Cells) | bk (ρ : En) (S : Cells) | ct (ρ : En) (S : Cells) | er (x : Xc) (ρ : En) (S : Cells) | stuck
abbrev SM := En → Cells → Out
section
variable (K : PySem.W.Frag) (T : Tab) (EE : XX)
def resS (γ hid : List Addr) (S : Cells) (H : Hp) (o : Out) (Dn : Ends) : Prop := match o with
  | .nx ρ' S' => ∀ (γ' : List Addr) (H' : Hp) (σ' : St), Hold K T γ' hid S' H' → Ext γ S H γ' S' H' → EnvR K T γ' (out γ' S' hid H') ρ' σ' → Dn.nx σ' H'
  | .rt d S' => ∀ (γ' : List Addr) (H' : Hp) (v : V), Hold K T γ' hid S' H' → Ext γ S H γ' S' H' → Rp K T γ' (out γ' S' hid H') d v → Dn.rt v H'
  | .bk ρ' S' => ∀ (γ' : List Addr) (H' : Hp) (σ' : St), Hold K T γ' hid S' H' → Ext γ S H γ' S' H' → EnvR K T γ' (out γ' S' hid H') ρ' σ' → Dn.bk σ' H'
  | .ct ρ' S' => ∀ (γ' : List Addr) (H' : Hp) (σ' : St), Hold K T γ' hid S' H' → Ext γ S H γ' S' H' → EnvR K T γ' (out γ' S' hid H') ρ' σ' → Dn.ct σ' H'
  | .er x ρ' S' => ∀ (γ' : List Addr) (H' : Hp) (σ' : St), Hold K T γ' hid S' H' → Ext γ S H γ' S' H' → EnvR K T γ' (out γ' S' hid H') ρ' σ' → EE x ρ' γ' hid S' H' σ'
  | .stuck => False
def dS (F : SM) : TS := fun Dn σ H => ∃ γ hid S ρ, Hold K T γ hid S H ∧ EnvR K T γ (out γ S hid H) ρ σ ∧ resS K T EE γ hid S H (F ρ S) Dn
end
structure EvS (X : Cx) (T : Tab) (EE : XX) (st : Stmt) (F : SM) : Prop where
  ps : PS X st (dS X.K T EE F)
structure EvSs (X : Cx) (T : Tab) (EE : XX) (st : List Stmt) (F : SM) : Prop where
  ps : PSs X st (dS X.K T EE F)
theorem _root_.L2.PS.dimp {X : Cx} {e : Stmt} {t t' : TS} (h : PS X e t) (i : ∀ Dn σ H, t' Dn σ H → t Dn σ H) : PS X e t' := ⟨fun pins s σ H Q I q => h.run pins s σ H Q I (i _ _ _ q)⟩
theorem _root_.L2.PSs.dimp {X : Cx} {e : List Stmt} {t t' : TS} (h : PSs X e t) (i : ∀ Dn σ H, t' Dn σ H → t Dn σ H) : PSs X e t' := ⟨fun pins s σ H Q I q => h.run pins s σ H Q I (i _ _ _ q)⟩
section
variable {K : PySem.W.Frag} {T : Tab} {EE : XX}
theorem resS.base {γ γ1 hid : List Addr} {S S1 : Cells} {H H1 : Hp} {o : Out} {Dn : Ends} (h : resS K T EE γ hid S H o Dn) (e : Ext γ S H γ1 S1 H1) : resS K T EE γ1 hid S1 H1 o Dn := by
  cases o with
  | nx ρ S' => exact fun γ' H' σ' a1 a2 a3 => h γ' H' σ' a1 (e.trans a2) a3
  | rt d S' => exact fun γ' H' σ' a1 a2 a3 => h γ' H' σ' a1 (e.trans a2) a3
  | bk ρ S' => exact fun γ' H' σ' a1 a2 a3 => h γ' H' σ' a1 (e.trans a2) a3
  | ct ρ S' => exact fun γ' H' σ' a1 a2 a3 => h γ' H' σ' a1 (e.trans a2) a3
  | er x ρ S' => exact fun γ' H' σ' a1 a2 a3 => h γ' H' σ' a1 (e.trans a2) a3
  | stuck => exact h
def bindS {α : Type} (f : En → M α) (g : α → SM) : SM := fun ρ S => match f ρ S with
  | .ok a S' => g a ρ S'
  | .err x S' => .er x ρ S'
  | .stuck => .stuck
/-- an expression at a statement's start -/
theorem bindSR {α β : Type} {rep : List Addr → Hp → α → β → Prop} {γ hid : List Addr} {S : Cells} {H : Hp} {ρ : En} {σ : St} {Dn : Ends} {f : En → M α} {g : α → SM}
    (hold : Hold K T γ hid S H) (env : EnvR K T γ (out γ S hid H) ρ σ) (h : resS K T EE γ hid S H (bindS f g ρ S) Dn) :
    dG K T EE rep f σ H fun b H1 => ∃ a γ1 S1, Hold K T γ1 hid S1 H1 ∧ Ext γ S H γ1 S1 H1 ∧ EnvR K T γ1 (out γ1 S1 hid H1) ρ σ ∧ rep γ1 (out γ1 S1 hid H1) a b ∧ resS K T EE γ1 hid S1 H1 (g a ρ S1) Dn := by
  refine ⟨γ, hid, S, ρ, hold, env, ?_⟩
  unfold bindS at h
  cases q : f ρ S with
  | ok a S1 =>
    rw [q] at h
    exact fun γ1 H1 b a1 a2 a3 => ⟨a, γ1, S1, a1, a2, env.mono a2.pre (a2.sameH hid), a3, h.base a2⟩
  | err x S1 =>
    rw [q] at h
    exact fun γ' H' a1 a2 => h γ' H' σ a1 a2 (env.mono a2.pre (a2.sameH hid))
  | stuck =>
    rw [q] at h
    exact h
theorem bindSD {α β : Type} {rep : List Addr → Hp → α → β → Prop} {σ : St} {H : Hp} {Dn : Ends} {f : En → M α} {g : α → SM} (h : dS K T EE (bindS f g) Dn σ H) :
    dG K T EE rep f σ H fun b H1 => ∃ a γ1 hid S1 ρ, Hold K T γ1 hid S1 H1 ∧ EnvR K T γ1 (out γ1 S1 hid H1) ρ σ ∧ rep γ1 (out γ1 S1 hid H1) a b ∧ resS K T EE γ1 hid S1 H1 (g a ρ S1) Dn := by
  obtain ⟨γ, hid, S, ρ, hold, env, h⟩ := h
  obtain ⟨_, _, _, _, h1, h2, h3⟩ := bindSR (rep := rep) hold env h
  exact ⟨_, _, _, _, h1, h2, h3.imp fun b H1 ⟨a, γ1, S1, q1, q2, q3, q4, q5⟩ => ⟨a, γ1, hid, S1, ρ, q1, q3, q4, q5⟩⟩
end
section
variable {X : Cx} {T : Tab} {EE : XX} {a b e : Expr} {st : Stmt} {rest : List Stmt} {f : En → M D} {F G : SM} {pos : Pos}
def nxS : SM := fun ρ S => .nx ρ S
def seqS (F G : SM) : SM := fun ρ S => match F ρ S with
  | .nx ρ' S' => G ρ' S'
  | o => o
theorem es_nil : EvSs X T EE [] nxS := ⟨pss_nil.dimp fun Dn σ H h => by
  obtain ⟨γ, hid, S, ρ, hold, env, h⟩ := h
  exact h γ H σ hold (Ext.refl _ _ _) env⟩
theorem es_cons (h1 : EvS X T EE st F) (h2 : EvSs X T EE rest G) : EvSs X T EE (st :: rest) (seqS F G) := by
  refine ⟨(pss_cons h1.ps h2.ps).dimp fun Dn σ H h => ?_⟩
  obtain ⟨γ, hid, S, ρ, hold, env, h⟩ := h
  refine ⟨γ, hid, S, ρ, hold, env, ?_⟩
  unfold seqS at h
  cases q : F ρ S with
  | nx ρ' S' =>
    rw [q] at h
    exact fun γ' H' σ' a1 a2 a3 => ⟨γ', hid, S', ρ', a1, a3, h.base a2⟩
  | rt d S' => rw [q] at h; exact h
  | bk ρ S' => rw [q] at h; exact h
  | ct ρ S' => rw [q] at h; exact h
  | er x ρ S' => rw [q] at h; exact h
  | stuck => rw [q] at h; exact h
theorem es_one (h1 : EvS X T EE st F) : EvSs X T EE [st] F := ⟨pss_one h1.ps⟩
theorem es_pass : EvS X T EE (.Pass pos) nxS := ⟨ps_pass.dimp fun Dn σ H h => by
  obtain ⟨γ, hid, S, ρ, hold, env, h⟩ := h
  exact h γ H σ hold (Ext.refl _ _ _) env⟩
theorem es_break : EvS X T EE (.Break pos) (fun ρ S => .bk ρ S) := ⟨ps_break.dimp fun Dn σ H h => by
  obtain ⟨γ, hid, S, ρ, hold, env, h⟩ := h
  exact h γ H σ hold (Ext.refl _ _ _) env⟩
theorem es_continue : EvS X T EE (.Continue pos) (fun ρ S => .ct ρ S) := ⟨ps_continue.dimp fun Dn σ H h => by
  obtain ⟨γ, hid, S, ρ, hold, env, h⟩ := h
  exact h γ H σ hold (Ext.refl _ _ _) env⟩
theorem es_never : EvS X T EE st (fun _ _ => .stuck) := ⟨ps_never.dimp fun Dn σ H h => by
  obtain ⟨γ, hid, S, ρ, hold, env, h⟩ := h
  exact h⟩
theorem es_expr (he : EvE X T EE e f) (hs : swapsWith e none pos.line X.env = pure false := by rfl) : EvS X T EE (.Expr e pos) (bindS f fun _ => nxS) := by
  refine ⟨(ps_expr he.pe hs).dimp fun Dn σ H h => ?_⟩
  refine (show dG X.K T EE (repE X.K T) f σ H _ from ?_)
  obtain ⟨_, _, _, _, h1, h2, h3⟩ := bindSD (rep := repE X.K T) h
  refine ⟨_, _, _, _, h1, h2, h3.imp fun v H1 ⟨d, γ1, hid, S1, ρ, q1, q3, q4, q5⟩ => ?_⟩
  exact q5 γ1 H1 σ q1 (Ext.refl _ _ _) q3
theorem es_ret (he : EvE X T EE e f) : EvS X T EE (.Return (some e) pos) (bindS f fun d _ S => .rt d S) := by
  refine ⟨(ps_ret he.pe).dimp fun Dn σ H h => ?_⟩
  refine (show dG X.K T EE (repE X.K T) f σ H _ from ?_)
  obtain ⟨_, _, _, _, h1, h2, h3⟩ := bindSD (rep := repE X.K T) h
  refine ⟨_, _, _, _, h1, h2, h3.imp fun v H1 ⟨d, γ1, hid, S1, ρ, q1, q3, q4, q5⟩ => ?_⟩
  exact q5 γ1 H1 v q1 (Ext.refl _ _ _) q4
theorem es_retN : EvS X T EE (.Return none pos) (fun _ S => .rt .non S) := ⟨ps_retN.dimp fun Dn σ H h => by
  obtain ⟨γ, hid, S, ρ, hold, env, h⟩ := h
  exact h γ H .non hold (Ext.refl _ _ _) .non⟩
theorem es_if {c : Expr} {as bs : List Stmt} {tc : En → M Bool} (hc : EvT X T EE c tc) (ha : EvSs X T EE as F) (hb : EvSs X T EE bs G) : EvS X T EE (.If c as bs pos) (bindS tc fun k => if k = true then F else G) := by
  refine ⟨(ps_if hc.pt ha.ps hb.ps).dimp fun Dn σ H h => ?_⟩
  refine (show dG X.K T EE repB tc σ H _ from ?_)
  obtain ⟨_, _, _, _, h1, h2, h3⟩ := bindSD (rep := repB) h
  refine ⟨_, _, _, _, h1, h2, h3.imp fun c H1 ⟨k, γ1, hid, S1, ρ, q1, q3, q4, q5⟩ => ?_⟩
  have q4' : k = c := q4
  subst q4'
  cases k with
  | true =>
    rw [if_pos rfl] at q5
    rw [if_pos rfl]
    exact ⟨γ1, hid, S1, ρ, q1, q3, q5⟩
  | false =>
    rw [if_neg Bool.false_ne_true] at q5
    rw [if_neg Bool.false_ne_true]
    exact ⟨γ1, hid, S1, ρ, q1, q3, q5⟩
/-- name = e -/
theorem es_set {i : Nat} {x : Str} {pos' : Pos} (hN : X.N.Nodup) (hi : X.N[i]? = some x) (hx : Loc X.env.scope x) (he : EvE X T EE e f) (hs : swapsWith e (some (.Name x pos')) pos.line X.env = pure false := by rfl) (hf : X.fn x = true ∨ X.env.scope.names.lookup x = some .local := by first | exact .inl rfl | exact .inr rfl | assumption) :
    EvS X T EE (.Assign [.Name x pos'] e pos) (bindS f fun d ρ S => .nx (ρ.set i (some d)) S) := by
  refine ⟨(ps_set hN hi hx he.pe hs hf).dimp fun Dn σ H h => ?_⟩
  refine (show dG X.K T EE (repE X.K T) f σ H _ from ?_)
  obtain ⟨_, _, _, _, h1, h2, h3⟩ := bindSD (rep := repE X.K T) h
  refine ⟨_, _, _, _, h1, h2, h3.imp fun v H1 ⟨d, γ1, hid, S1, ρ, q1, q3, q4, q5⟩ => ?_⟩
  exact q5 γ1 H1 _ q1 (Ext.refl _ _ _) (q3.set i q4)
/-- name op= e -/
theorem es_aug {i : Nat} {x : Str} {pos' : Pos} {o : Operator} {op : D → D → Cells → Option D} (hN : X.N.Nodup) (hi : X.N[i]? = some x) (hx : Loc X.env.scope x) (ho : OpR X (inplaceOp o) (rO X.K T op)) (he : EvE X T EE e f) (hf : X.fn x = true ∨ X.env.scope.names.lookup x = some .local := by first | exact .inl rfl | exact .inr rfl | assumption) :
    EvS X T EE (.AugAssign (.Name x pos') o e pos) (bindS (fun ρ => M.bind (rd ρ i) fun x => M.bind (f ρ) fun y => M.opt (op x y)) fun d ρ S => .nx (ρ.set i (some d)) S) := by
  have hp : PIp X o (rO X.K T op) := fun pins s σ H x y v u Q I r1 r2 h => ho pins s σ H x y v u Q I r1 r2 h
  refine ⟨(ps_aug hN hi hx he.pe hp hf).dimp fun Dn σ H h => ?_⟩
  obtain ⟨γ, hid, S, ρ, hold, env, h⟩ := h
  cases q : rd ρ i S with
  | ok d S' =>
    unfold rd at q
    split at q
    · rename_i d0 e0
      cases q
      obtain ⟨v, e1, rv⟩ := env.get i d e0
      refine ⟨v, e1, ?_⟩
      have h' : resS X.K T EE γ hid S H (bindS (fun ρ => M.bind (f ρ) fun y => M.opt (op d y)) (fun d ρ S => .nx (ρ.set i (some d)) S) ρ S) Dn := by
        unfold bindS M.bind rd at h
        simp only [e0] at h
        exact h
      refine (show dG X.K T EE (repE X.K T) f σ H _ from ?_)
      have h2 : resS X.K T EE γ hid S H (bindS f (fun y => bindS (fun _ => M.opt (op d y)) (fun d ρ S => .nx (ρ.set i (some d)) S)) ρ S) Dn := by
        unfold bindS M.bind at h'
        unfold bindS
        cases q : f ρ S with
        | ok y S' => simp only [q] at h'; exact h'
        | err x S' => simp only [q] at h'; exact h'
        | stuck => simp only [q] at h'; exact h'
      obtain ⟨_, _, _, _, g1, g2, g3⟩ := bindSR (rep := repE X.K T) hold env h2
      refine ⟨_, _, _, _, g1, g2, g3.imp fun y H1 ⟨d2, γ1, S1, q1, q2, q3, q4, q5⟩ => ?_⟩
      unfold bindS M.opt at q5
      cases w : op d d2 S1 with
      | none =>
        simp only [w] at q5
        exact q5.elim
      | some z =>
        simp only [w] at q5
        exact ⟨γ1, hid, S1, d, d2, z, q1, q2.rp rv, q4, w, fun γ' H' v c1 c2 c3 => q5 γ' H' _ c1 c2 ((q3.mono c2.pre (c2.sameH hid)).set i c3)⟩
    · cases q
  | err x S' =>
    unfold rd at q
    split at q <;> cases q
  | stuck =>
    unfold bindS M.bind at h
    simp only [q] at h
    exact h.elim
end
end DL
end
section
set_option maxHeartbeats 2000000
/-! DLc: targets, what is walked, for, while, comprehensions. -/
namespace DL
open PySem PySem.Spec L2
open PyProof.Rows hiding St

/-! ### targets: names and tuples of targets -/
inductive Pat where
  | nm (i : Nat) | tp (l : List Pat)
mutual
def Pat.put : Pat → D → En → Option En
  | .nm i, d, ρ => some (ρ.set i (some d))
  | .tp ps, d, ρ => match d with
    | .tup ds => putL ps ds ρ
    | _ => none
def putL : List Pat → List D → En → Option En
  | [], [], ρ => some ρ
  | p :: ps, d :: ds, ρ => match p.put d ρ with
    | some ρ' => putL ps ds ρ'
    | none => none
  | _, _, _ => none
end
mutual
def Pat.tg (K : PySem.W.Frag) : Pat → TG
  | .nm i => gName i
  | .tp ps => gTup K ps.length (tgL K ps)
def tgL (K : PySem.W.Frag) : List Pat → TGs
  | [] => gNil
  | p :: ps => gCons (p.tg K) (tgL K ps)
end
mutual
def Pat.slots : Pat → List Nat
  | .nm i => [i]
  | .tp ps => slotsL ps
def slotsL : List Pat → List Nat
  | [] => []
  | p :: ps => p.slots ++ slotsL ps
end
structure EvG (X : Cx) (e : Expr) (p : Pat) : Prop where
  pg : PG X e (p.tg X.K)
structure EvGs (X : Cx) (es : List Expr) (ps : List Pat) : Prop where
  pgs : PGs X es (tgL X.K ps)
section
variable {X : Cx} {pos : Pos}
theorem eg_name (i : Nat) {x : Str} (hN : X.N.Nodup) (hi : X.N[i]? = some x) (hx : Loc X.env.scope x) (hf : X.fn x = true ∨ X.env.scope.names.lookup x = some .local := by first | exact .inl rfl | exact .inr rfl | assumption) : EvG X (.Name x pos) (.nm i) := ⟨pg_name hN hi hx hf⟩
theorem egs_nil : EvGs X [] [] := ⟨pgs_nil⟩
theorem egs_cons {e : Expr} {es : List Expr} {p : Pat} {ps : List Pat} (h1 : EvG X e p) (h2 : EvGs X es ps) (hs : (assignEach (e :: es) X.env).map (·.2) = assign e X.env :: (assignEach es X.env).map (·.2) := by rfl) : EvGs X (e :: es) (p :: ps) := ⟨pgs_cons h1.pg h2.pgs hs⟩
theorem eg_tup {es : List Expr} {k : Nat} {ps : List Pat} (hc : X.calm = true) (h : EvGs X es ps) (hn : (assignEach es X.env).length = ps.length := by rfl) (hst : (assignEach es X.env).findIdx? (·.1) = none := by rfl) : EvG X (.Tuple es k pos) (.tp ps) := ⟨pg_tup hc h.pgs hn hst⟩
end
theorem wipe_get (σ : St) : ∀ (vs : List Nat) (j : Nat), (wipe σ vs)[j]? = if j ∈ vs then (if j < σ.length then some none else none) else σ[j]?
  | [], j => by simp [wipe]
  | v :: vs, j => by
    unfold wipe
    rw [List.getElem?_set, wipe_get σ vs j, wipe_length]
    by_cases h : v = j
    · subst h
      simp
    · simp [h, Ne.symm h]
theorem wipe_set {σ : St} {vs : List Nat} {i : Nat} {x : Option V} (h : i ∈ vs) : wipe (σ.set i x) vs = wipe σ vs := by
  apply List.ext_getElem?
  intro j
  rw [wipe_get, wipe_get, List.length_set]
  by_cases hj : j ∈ vs
  · rw [if_pos hj, if_pos hj]
  · rw [if_neg hj, if_neg hj, List.getElem?_set_ne]
    rintro rfl
    exact hj h
theorem wipe_wipe (σ : St) (vs : List Nat) : wipe (wipe σ vs) vs = wipe σ vs := by
  apply List.ext_getElem?
  intro j
  rw [wipe_get, wipe_length, wipe_get]
  by_cases hj : j ∈ vs
  · rw [if_pos hj, if_pos hj]
  · rw [if_neg hj, if_neg hj]
section
variable {K : PySem.W.Frag} {T : Tab} {γ : List Addr} {F H : Hp}
mutual
theorem put_ok (hs : Same F H) : ∀ (p : Pat) (d : D) (v : V) (ρ ρ' : En) (σ : St) (Q : St → Hp → Prop), EnvR K T γ F ρ σ → Rp K T γ F d v → p.put d ρ = some ρ' →
    (∀ σ', EnvR K T γ F ρ' σ' → (∀ vs : List Nat, (∀ i ∈ p.slots, i ∈ vs) → wipe σ' vs = wipe σ vs) → Q σ' H) → p.tg K v σ H Q
  | .nm i, d, v, ρ, ρ', σ, Q, env, r, e, q => by
    unfold Pat.put at e
    cases e
    unfold Pat.tg
    exact q _ (env.set i r) fun vs h => wipe_set (h i (by simp [Pat.slots]))
  | .tp ps, .tup ds, v, ρ, ρ', σ, Q, env, r, e, q => by
    unfold Pat.put at e
    unfold Pat.tg
    cases r with
    | tup a z b =>
      have hl : ds.length = ps.length := putL_len ps ds ρ ρ' e
      refine ⟨_, _, rfl, same_seqT hs a, by rw [← b.length, hl], ?_⟩
      exact putL_ok hs ps ds _ ρ ρ' σ Q env b e fun σ' h1 h2 => q σ' h1 fun vs h => h2 vs (by unfold Pat.slots at h; exact h)
  | .tp ps, .non, _, _, _, _, _, _, _, e, _ => by unfold Pat.put at e; cases e
  | .tp ps, .bl _, _, _, _, _, _, _, _, e, _ => by unfold Pat.put at e; cases e
  | .tp ps, .int _, _, _, _, _, _, _, _, e, _ => by unfold Pat.put at e; cases e
  | .tp ps, .str _, _, _, _, _, _, _, _, e, _ => by unfold Pat.put at e; cases e
  | .tp ps, .lst _, _, _, _, _, _, _, _, e, _ => by unfold Pat.put at e; cases e
  | .tp ps, .ref _, _, _, _, _, _, _, _, e, _ => by unfold Pat.put at e; cases e
  | .tp ps, .obj _ _, _, _, _, _, _, _, _, e, _ => by unfold Pat.put at e; cases e
theorem putL_ok (hs : Same F H) : ∀ (ps : List Pat) (ds : List D) (vs : List V) (ρ ρ' : En) (σ : St) (Q : St → Hp → Prop), EnvR K T γ F ρ σ → RpL K T γ F ds vs → putL ps ds ρ = some ρ' →
    (∀ σ', EnvR K T γ F ρ' σ' → (∀ ws : List Nat, (∀ i ∈ slotsL ps, i ∈ ws) → wipe σ' ws = wipe σ ws) → Q σ' H) → tgL K ps vs σ H Q
  | [], [], _, ρ, ρ', σ, Q, env, r, e, q => by
    cases r
    unfold putL at e
    cases e
    unfold tgL
    exact ⟨rfl, q σ env fun _ _ => rfl⟩
  | p :: ps, d :: ds, _, ρ, ρ', σ, Q, env, r, e, q => by
    cases r with
    | cons a b =>
      unfold putL at e
      cases e1 : p.put d ρ with
      | none => rw [e1] at e; cases e
      | some ρ1 =>
        rw [e1] at e
        unfold tgL
        refine ⟨_, _, rfl, put_ok hs p d _ ρ ρ1 σ _ env a e1 fun σ1 h1 h2 => ?_⟩
        refine putL_ok hs ps ds _ ρ1 ρ' σ1 Q h1 b e fun σ2 h3 h4 => q σ2 h3 fun ws hw => ?_
        rw [h4 ws fun i hi => hw i (by unfold slotsL; exact List.mem_append_right _ hi), h2 ws fun i hi => hw i (by unfold slotsL; exact List.mem_append_left _ hi)]
  | [], d :: ds, _, _, _, _, _, _, _, e, _ => by unfold putL at e; cases e
  | p :: ps, [], _, _, _, _, _, _, _, e, _ => by unfold putL at e; cases e
theorem putL_len : ∀ (ps : List Pat) (ds : List D) (ρ ρ' : En), putL ps ds ρ = some ρ' → ds.length = ps.length
  | [], [], _, _, _ => rfl
  | p :: ps, d :: ds, ρ, ρ', e => by
    unfold putL at e
    cases e1 : p.put d ρ with
    | none => rw [e1] at e; cases e
    | some ρ1 =>
      rw [e1] at e
      simp [putL_len ps ds ρ1 ρ' e]
  | [], d :: ds, _, _, e => by unfold putL at e; cases e
  | p :: ps, [], _, _, e => by unfold putL at e; cases e
end
end
section
variable {X : Cx} {T : Tab} {EE : XX} {e tg : Expr} {f : En → M D} {pos : Pos}
/-- target = e -/
def asgD (f : En → M D) (p : Pat) : SM := bindS f fun d ρ S => match p.put d ρ with
  | some ρ' => .nx ρ' S
  | none => .stuck
theorem es_asg {p : Pat} (he : EvE X T EE e f) (hg : EvG X tg p) (hs : swapsWithSole [tg] e pos.line X.env = pure false := by rfl) (hw : swappedStores [tg] e X.env = pure none := by rfl)
    (h1 : (assignEach [tg] X.env).map (·.2) = [assign tg X.env] := by rfl) : EvS X T EE (.Assign [tg] e pos) (asgD f p) := by
  refine ⟨(ps_asg he.pe hg.pg hs hw h1).dimp fun Dn σ H h => ?_⟩
  refine (show dG X.K T EE (repE X.K T) f σ H _ from ?_)
  obtain ⟨_, _, _, _, h1, h2, h3⟩ := bindSD (rep := repE X.K T) h
  refine ⟨_, _, _, _, h1, h2, h3.imp fun v H1 ⟨d, γ1, hid, S1, ρ, q1, q3, q4, q5⟩ => ?_⟩
  cases e1 : p.put d ρ with
  | none =>
    rw [e1] at q5
    exact q5.elim
  | some ρ' =>
    rw [e1] at q5
    exact put_ok (out_sub _ _ _ _) p d v ρ ρ' σ _ q3 q4 e1 fun σ' a1 _ => q5 γ1 H1 σ' q1 (Ext.refl _ _ _) a1
/-- a, b = x, y (plain local names) -/
theorem es_par {i j : Nat} {x y : Str} {a b : Expr} {fs : En → M (List D)} {px py pt : Pos} {kt k2 : Nat} {pt2 : Pos} (hc : X.calm = true) (hN : X.N.Nodup) (hi : X.N[i]? = some x) (hj : X.N[j]? = some y) (hij : i ≠ j)
    (hx : X.env.scope.names.lookup x = some .local) (hy : X.env.scope.names.lookup y = some .local) (ha : EvA X T EE [a, b] fs)
    (hw : swappedStores [.Tuple [.Name x px, .Name y py] kt pt] (.Tuple [a, b] k2 pt2) X.env = pure (some [x, y]))
    (hs : swapsWithSole [.Tuple [.Name x px, .Name y py] kt pt] (.Tuple [a, b] k2 pt2) pos.line X.env = pure false := by rfl) :
    EvS X T EE (.Assign [.Tuple [.Name x px, .Name y py] kt pt] (.Tuple [a, b] k2 pt2) pos) (bindS fs fun l ρ S => match l with
      | [d, e] => .nx ((ρ.set i (some d)).set j (some e)) S
      | _ => .stuck) := by
  refine ⟨(ps_par hc hN hi hj hij hx hy ha.pa hw hs).dimp fun Dn σ H h => ?_⟩
  refine (show dG X.K T EE (repA X.K T) fs σ H _ from ?_)
  obtain ⟨_, _, _, _, h1, h2, h3⟩ := bindSD (rep := repA X.K T) h
  refine ⟨_, _, _, _, h1, h2, h3.imp fun vs H1 ⟨l, γ1, hid, S1, ρ, q1, q3, q4, q5⟩ => ?_⟩
  cases q4 with
  | nil => exact q5.elim
  | cons r1 r =>
    cases r with
    | nil => exact q5.elim
    | cons r2 r =>
      cases r with
      | nil => exact ⟨_, _, rfl, q5 γ1 H1 _ q1 (Ext.refl _ _ _) ((q3.set i r1).set j r2)⟩
      | cons r3 r => exact q5.elim
end

/-! ### what is walked -/
/-- J gives these items, whenever what stood still stands -/
def repI (K : PySem.W.Frag) (T : Tab) : List Addr → Hp → List D → It → Prop := fun γ F items J =>
  items.length ≤ sizeLine ∧ ∀ (γ2 hid2 : List Addr) (S2 : Cells) (H2 : Hp), (∀ (n : Nat) (a : Addr), γ[n]? = some a → γ2[n]? = some a) → Same F (out γ2 S2 hid2 H2) → Hold K T γ2 hid2 S2 H2 →
    (∀ i, i < items.length → J.go i H2) ∧ J.stop items.length H2 ∧
    ∀ i x H3, i < items.length → J.yld i H2 x H3 → ∃ d, items[i]? = some d ∧ Hold K T γ2 hid2 S2 H3 ∧ Ext γ2 S2 H2 γ2 S2 H3 ∧ Rp K T γ2 (out γ2 S2 hid2 H3) d x
def dI (K : PySem.W.Frag) (T : Tab) (EE : XX) (f : En → M (List D)) : TI := fun σ H R => dG K T EE (repI K T) f σ H R
structure EvI (X : Cx) (T : Tab) (EE : XX) (tg iter : Expr) (f : En → M (List D)) : Prop where
  pi : PI X tg iter (dI X.K T EE f)
theorem _root_.L2.PI.dimp {X : Cx} {tg e : Expr} {t t' : TI} (h : PI X tg e t) (i : ∀ σ H Q, t' σ H Q → t σ H Q) : PI X tg e t' := ⟨fun pins s σ H Q I q => h.run pins s σ H Q I (i _ _ _ q)⟩
theorem _root_.L2.PI.or2 {X : Cx} {tg e : Expr} {t t' : TI} (h : PI X tg e t) (h' : PI X tg e t') : PI X tg e (fun σ H R => t σ H R ∨ t' σ H R) := ⟨fun pins s σ H Q I q => q.elim (h.run pins s σ H Q I) (h'.run pins s σ H Q I)⟩
section
variable {K : PySem.W.Frag} {T : Tab} {γ : List Addr} {F : Hp}
theorem repI_list {a : Addr} {ds : List D} {vs : List V} (hq : SqL K F a vs) (z : ds.length ≤ sizeLine) (r : RpL K T γ F ds vs) : repI K T γ F ds (Itl K a) := by
  refine ⟨z, fun γ2 hid2 S2 H2 hp hs hh => ?_⟩
  have hq2 : SqL K H2 a vs := (out_sub _ _ _ _).seq (hs.seq hq)
  have hl := r.length
  refine ⟨fun i hi => ⟨vs, vs[i]'(by omega), hq2, List.getElem?_eq_getElem _⟩, ⟨vs, hq2, by omega⟩, fun i x H3 hi y => ?_⟩
  obtain ⟨e, y⟩ := y
  subst e
  obtain ⟨d, e1, r1⟩ := r.get' (y vs hq2)
  exact ⟨d, e1, hh, Ext.refl _ _ _, Rp.mono hp hs d x r1⟩
theorem repI_tup {a : Addr} {ds : List D} {vs : List V} (hq : SqT K F a vs) (z : ds.length ≤ sizeLine) (r : RpL K T γ F ds vs) : repI K T γ F ds (Itt K a) := by
  refine ⟨z, fun γ2 hid2 S2 H2 hp hs hh => ?_⟩
  have hq2 : SqT K H2 a vs := same_seqT (out_sub _ _ _ _) (same_seqT hs hq)
  have hl := r.length
  refine ⟨fun i hi => ⟨vs, vs[i]'(by omega), hq2, List.getElem?_eq_getElem _⟩, ⟨vs, hq2, by omega⟩, fun i x H3 hi y => ?_⟩
  obtain ⟨e, y⟩ := y
  subst e
  obtain ⟨d, e1, r1⟩ := r.get' (y vs hq2)
  exact ⟨d, e1, hh, Ext.refl _ _ _, Rp.mono hp hs d x r1⟩
/-- the signs of a text -/
def signsD (x : Str) : List D := x.cps.toList.map fun c => .str ⟨#[c]⟩
theorem one_sign {c : Nat} : (⟨#[c]⟩ : Str).length ≤ sizeLine := by
  rw [sizeLine_eq]
  show 1 ≤ _
  decide
theorem repI_str (x : Str) (z : x.length ≤ sizeLine) : repI K T γ F (signsD x) (Its x) := by
  have hl : (signsD x).length = x.cps.size := by simp [signsD]
  refine ⟨by rw [hl]; exact z, fun γ2 hid2 S2 H2 hp hs hh => ?_⟩
  refine ⟨fun i hi => by rw [hl] at hi; exact hi, by show x.cps.size ≤ _; omega, fun i v H3 hi y => ?_⟩
  obtain ⟨e, c, ec, ev⟩ := y
  subst e
  subst ev
  refine ⟨.str ⟨#[c]⟩, ?_, hh, Ext.refl _ _ _, .str _ one_sign⟩
  unfold signsD
  rw [List.getElem?_map, Array.getElem?_toList, ec]
  rfl
theorem repI_range (lo : Int) (n : Nat) (z : n ≤ sizeLine) : repI K T γ F ((List.range n).map fun i => D.int (lo + (i : Nat))) (Itr lo n) := by
  have hl : ((List.range n).map fun i => D.int (lo + (i : Nat))).length = n := by simp
  refine ⟨by rw [hl]; exact z, fun γ2 hid2 S2 H2 hp hs hh => ?_⟩
  refine ⟨fun i hi => by rw [hl] at hi; exact hi, by show n ≤ _; omega, fun i v H3 hi y => ?_⟩
  obtain ⟨e, ev⟩ := y
  subst e
  subst ev
  rw [hl] at hi
  refine ⟨.int (lo + i), ?_, hh, Ext.refl _ _ _, .int _⟩
  rw [List.getElem?_map, List.getElem?_range hi]
  rfl
theorem repI_rangeC (lo c : Int) (n : Nat) (z : n ≤ sizeLine) : repI K T γ F ((List.range n).map fun i => D.int (lo + (i : Nat) * c)) (Itc lo c n) := by
  have hl : ((List.range n).map fun i => D.int (lo + (i : Nat) * c)).length = n := by simp
  refine ⟨by rw [hl]; exact z, fun γ2 hid2 S2 H2 hp hs hh => ?_⟩
  refine ⟨fun i hi => by rw [hl] at hi; exact hi, by show n ≤ _; omega, fun i v H3 hi y => ?_⟩
  obtain ⟨e, ev⟩ := y
  subst e
  subst ev
  rw [hl] at hi
  refine ⟨.int (lo + (i : Nat) * c), ?_, hh, Ext.refl _ _ _, .int _⟩
  rw [List.getElem?_map, List.getElem?_range hi]
  rfl
theorem two_small : ([D.non, D.non] : List D).length ≤ sizeLine := by
  rw [sizeLine_eq]
  decide
def pairsD (l m : List D) : List D := (l.zip m).map fun p => .tup [p.1, p.2]
theorem repI_zip {a b : Addr} {ds es : List D} {vs ws : List V} (hq : SqL K F a vs) (hq' : SqL K F b ws) (z : ds.length ≤ sizeLine) (r : RpL K T γ F ds vs) (r' : RpL K T γ F es ws) : repI K T γ F (pairsD ds es) (Itz K a b) := by
  have hl := r.length
  have hl' := r'.length
  have hn : (pairsD ds es).length = min ds.length es.length := by simp [pairsD]
  refine ⟨by omega, fun γ2 hid2 S2 H2 hp hs hh => ?_⟩
  have hq2 : SqL K H2 a vs := (out_sub _ _ _ _).seq (hs.seq hq)
  have hq3 : SqL K H2 b ws := (out_sub _ _ _ _).seq (hs.seq hq')
  have W := walk_zip (K := K) (a := a) (b := b) (xs := vs) (ys := ws) (n := min ds.length es.length) (by omega)
  rw [hn]
  refine ⟨fun i hi => W.goes i H2 hi ⟨hq2, hq3⟩, W.stops H2 ⟨hq2, hq3⟩, fun i x H3 hi y => ?_⟩
  obtain ⟨t, x1, x2, e1, nt, e2, g1, g2⟩ := W.yields i H2 x H3 hi ⟨hq2, hq3⟩ y
  subst e1
  subst e2
  obtain ⟨d1, f1, r1⟩ := r.get' g1
  obtain ⟨d2, f2, r2⟩ := r'.get' g2
  obtain ⟨a1, a2, a3⟩ := hh.lay nt (.tup [x1, x2])
  refine ⟨.tup [d1, d2], ?_, a1, a2, .tup (SqT.of (a3 hid2 (hh.fresh nt).2)) two_small (.cons (a2.rp (Rp.mono hp hs _ _ r1)) (.one (a2.rp (Rp.mono hp hs _ _ r2))))⟩
  unfold pairsD
  rw [List.getElem?_map, List.getElem?_zip_eq_some (z := (d1, d2)) |>.mpr ⟨f1, f2⟩]
  rfl
def enumD (l : List D) : List D := (l.zipIdx).map fun p => .tup [.int (p.2 : Nat), p.1]
theorem repI_enum {a : Addr} {ds : List D} {vs : List V} (hq : SqL K F a vs) (z : ds.length ≤ sizeLine) (r : RpL K T γ F ds vs) : repI K T γ F (enumD ds) (Ite K a) := by
  have hl := r.length
  have hn : (enumD ds).length = ds.length := by simp [enumD]
  refine ⟨by omega, fun γ2 hid2 S2 H2 hp hs hh => ?_⟩
  have hq2 : SqL K H2 a vs := (out_sub _ _ _ _).seq (hs.seq hq)
  have W := walk_enum (K := K) (a := a) (xs := vs)
  rw [hn, hl]
  refine ⟨fun i hi => W.goes i H2 hi hq2, W.stops H2 hq2, fun i x H3 hi y => ?_⟩
  obtain ⟨t, x1, x2, e1, nt, e2, g1, g2⟩ := W.yields i H2 x H3 hi hq2 y
  subst e1
  subst e2
  cases g1
  obtain ⟨d2, f2, r2⟩ := r.get' g2
  obtain ⟨a1, a2, a3⟩ := hh.lay nt (.tup [.int (i : Nat), x2])
  refine ⟨.tup [.int (i : Nat), d2], ?_, a1, a2, .tup (SqT.of (a3 hid2 (hh.fresh nt).2)) two_small (.cons (.int _) (.one (a2.rp (Rp.mono hp hs _ _ r2))))⟩
  unfold enumD
  rw [List.getElem?_map, List.getElem?_zipIdx, f2]
  simp
end
/-- the items of what is walked -/
def itemsD (d : D) : Option (List D) := match d with
  | .lst l => some l
  | .tup l => some l
  | .str x => some (signsD x)
  | _ => none
section
variable {X : Cx} {T : Tab} {EE : XX} {tg e a b c : Expr} {f fa fb : En → M D} {fs : En → M (List D)} {p pos tpos : Pos} {elts : List Expr} {kk : Nat}
theorem ei_seq (he : EvE X T EE e f) : EvI X T EE tg e (fun ρ => M.bind (f ρ) fun d => M.opt fun _ => itemsD d) := by
  refine ⟨((pi_list he.pe).or2 ((pi_tup he.pe).or2 (pi_str he.pe))).dimp fun σ H R h => ?_⟩
  obtain ⟨γ, hid, S, ρ, hold, env, h⟩ := h
  cases q : f ρ S with
  | ok d S' =>
    have h' : resG X.K T EE (repI X.K T) γ hid S H ρ σ (M.opt (fun _ => itemsD d) S') R := by
      rw [← bind_of_ok (g := fun d => M.opt fun _ => itemsD d) q]
      exact h
    cases d with
    | lst l =>
      refine .inl ⟨γ, hid, S, ρ, hold, env, ?_⟩
      rw [q]
      intro γ' H' v a1 a2 a3
      cases a3 with
      | lst x z y => exact ⟨_, rfl, ⟨_, (out_sub _ _ _ _).seq x⟩, h' γ' H' _ a1 a2 (repI_list x z y)⟩
    | tup l =>
      refine .inr (.inl ⟨γ, hid, S, ρ, hold, env, ?_⟩)
      rw [q]
      intro γ' H' v a1 a2 a3
      cases a3 with
      | tup x z y => exact ⟨_, rfl, ⟨_, same_seqT (out_sub _ _ _ _) x⟩, h' γ' H' _ a1 a2 (repI_tup x z y)⟩
    | str x =>
      refine .inr (.inr ⟨γ, hid, S, ρ, hold, env, ?_⟩)
      rw [q]
      intro γ' H' v a1 a2 a3
      cases a3 with
      | str x z => exact ⟨_, rfl, h' γ' H' _ a1 a2 (repI_str _ z)⟩
    | non => exact (h' : False).elim
    | bl _ => exact (h' : False).elim
    | int _ => exact (h' : False).elim
    | ref _ => exact (h' : False).elim
    | obj _ _ => exact (h' : False).elim
  | err x S' =>
    have h' : resG X.K T EE (repI X.K T) γ hid S H ρ σ (.err x S') R := by
      rw [← bind_of_err (g := fun d => M.opt fun _ => itemsD d) q]
      exact h
    refine .inl ⟨γ, hid, S, ρ, hold, env, ?_⟩
    rw [q]
    exact h'
  | stuck =>
    have h' : resG X.K T EE (repI X.K T) γ hid S H ρ σ (.stuck : DL.R (List D)) R := by
      rw [← bind_of_stuck (g := fun d => M.opt fun _ => itemsD d) q]
      exact h
    exact h'.elim
def rangeD (lo hi : Int) : Option (List D) := if (-(2 ^ 62) ≤ lo ∧ lo < 2 ^ 62 ∧ -(2 ^ 62) ≤ hi ∧ hi < 2 ^ 62) ∧ (hi - lo).toNat ≤ sizeLine then some ((List.range (hi - lo).toNat).map fun i => D.int (lo + (i : Nat))) else none
def range1 (l : List D) : Option (List D) := match l with
  | [.int j] => rangeD 0 j
  | _ => none
def range2 (l : List D) : Option (List D) := match l with
  | [.int i, .int j] => rangeD i j
  | _ => none
theorem ei_range1 (hg : Gl X "range") (hm : X.mg "range" = none) (ha : EvA X T EE [a] fs) (hs : starEach [a] X.env = [(false, eval a X.env)] := by rfl) : EvI X T EE tg (.Call (.Name "range" p) [a] [] pos) (fun ρ => M.bind (fs ρ) fun l => M.opt fun _ => range1 l) := by
  refine ⟨(pi_range1 hg hm ha.pa hs).dimp fun σ H R h => ?_⟩
  refine (show dG X.K T EE (repA X.K T) fs σ H _ from ?_)
  obtain ⟨_, _, _, _, h1, h2, h3⟩ := bindD (rep := repA X.K T) h
  refine ⟨_, _, _, _, h1, h2, h3.imp fun vs H1 ⟨l, γ1, hid, S1, ρ, q1, q3, q4, q5⟩ => ?_⟩
  obtain ⟨d, e, w5⟩ := opt_ok q5
  unfold range1 at e
  split at e
  · cases q4 with
    | cons r1 r =>
      cases r1
      cases r
      unfold rangeD at e
      split at e
      · rename_i hj
        cases e
        refine ⟨_, rfl, hj.1.2.2.1, hj.1.2.2.2, ?_⟩
        rw [Int.sub_zero] at w5 hj
        exact w5 γ1 H1 _ q1 (Ext.refl _ _ _) (repI_range 0 _ hj.2)
      · cases e
  · cases e
theorem ei_range2 (hg : Gl X "range") (hm : X.mg "range" = none) (ha : EvA X T EE [a, b] fs) (hs : starEach [a, b] X.env = [(false, eval a X.env), (false, eval b X.env)] := by rfl) (hs2 : starEach [b] X.env = [(false, eval b X.env)] := by rfl) :
    EvI X T EE tg (.Call (.Name "range" p) [a, b] [] pos) (fun ρ => M.bind (fs ρ) fun l => M.opt fun _ => range2 l) := by
  refine ⟨(pi_range2 hg hm ha.pa hs hs2).dimp fun σ H R h => ?_⟩
  refine (show dG X.K T EE (repA X.K T) fs σ H _ from ?_)
  obtain ⟨_, _, _, _, h1, h2, h3⟩ := bindD (rep := repA X.K T) h
  refine ⟨_, _, _, _, h1, h2, h3.imp fun vs H1 ⟨l, γ1, hid, S1, ρ, q1, q3, q4, q5⟩ => ?_⟩
  obtain ⟨d, e, w5⟩ := opt_ok q5
  unfold range2 at e
  split at e
  · cases q4 with
    | cons r1 r =>
      cases r1
      cases r with
      | cons r2 r =>
        cases r2
        cases r
        unfold rangeD at e
        split at e
        · rename_i hj
          cases e
          exact ⟨_, _, rfl, hj.1, w5 γ1 H1 _ q1 (Ext.refl _ _ _) (repI_range _ _ hj.2)⟩
        · cases e
  · cases e
def zipA (l : List D) : Option (List D) := match l with
  | [.lst x, .lst y] => some (pairsD x y)
  | _ => none
theorem ei_zip (hg : Gl X "zip") (hm : X.mg "zip" = none) (ha : EvA X T EE [a, b] fs) (hs : starEach [a, b] X.env = (false, eval a X.env) :: starEach [b] X.env := by rfl) (hpl : (backTo pos (starEach [b] X.env)).any (·.1) = false := by rfl) :
    EvI X T EE (.Tuple elts kk tpos) (.Call (.Name "zip" p) [a, b] [] pos) (fun ρ => M.bind (fs ρ) fun l => M.opt fun _ => zipA l) := by
  refine ⟨(pi_zip hg hm ha.pa hs hpl).dimp fun σ H R h => ?_⟩
  refine (show dG X.K T EE (repA X.K T) fs σ H _ from ?_)
  obtain ⟨_, _, _, _, h1, h2, h3⟩ := bindD (rep := repA X.K T) h
  refine ⟨_, _, _, _, h1, h2, h3.imp fun vs H1 ⟨l, γ1, hid, S1, ρ, q1, q3, q4, q5⟩ => ?_⟩
  obtain ⟨d, e, w5⟩ := opt_ok q5
  unfold zipA at e
  split at e
  · cases e
    cases q4 with
    | cons r1 r =>
      cases r with
      | cons r2 r =>
        cases r
        cases r1 with
        | lst x z y =>
          cases r2 with
          | lst x' z' y' => exact ⟨_, _, _, _, rfl, (out_sub _ _ _ _).seq x, (out_sub _ _ _ _).seq x', w5 γ1 H1 _ q1 (Ext.refl _ _ _) (repI_zip x x' z y y')⟩
  · cases e
def enumA (l : List D) : Option (List D) := match l with
  | [.lst x] => some (enumD x)
  | _ => none
theorem ei_enum (hg : Gl X "enumerate") (hm : X.mg "enumerate" = none) (ha : EvA X T EE [a] fs) (hs : starEach [a] X.env = [(false, eval a X.env)] := by rfl) :
    EvI X T EE (.Tuple elts kk tpos) (.Call (.Name "enumerate" p) [a] [] pos) (fun ρ => M.bind (fs ρ) fun l => M.opt fun _ => enumA l) := by
  refine ⟨(pi_enum hg hm ha.pa hs).dimp fun σ H R h => ?_⟩
  refine (show dG X.K T EE (repA X.K T) fs σ H _ from ?_)
  obtain ⟨_, _, _, _, h1, h2, h3⟩ := bindD (rep := repA X.K T) h
  refine ⟨_, _, _, _, h1, h2, h3.imp fun vs H1 ⟨l, γ1, hid, S1, ρ, q1, q3, q4, q5⟩ => ?_⟩
  obtain ⟨d, e, w5⟩ := opt_ok q5
  unfold enumA at e
  split at e
  · cases e
    cases q4 with
    | cons r1 r =>
      cases r
      cases r1 with
      | lst x z y => exact ⟨_, _, rfl, (out_sub _ _ _ _).seq x, w5 γ1 H1 _ q1 (Ext.refl _ _ _) (repI_enum x z y)⟩
  · cases e
end

/-! ### for -/
/-- behind a turn's body -/
def stepD (k : SM) : Out → Out
  | .nx ρ S => k ρ S
  | .ct ρ S => k ρ S
  | .bk ρ S => .nx ρ S
  | .rt d S => .rt d S
  | .er x ρ S => .er x ρ S
  | .stuck => .stuck
def putM (o : Option En) (k : En → Out) : Out := match o with
  | some ρ => k ρ
  | none => .stuck
def forD (p : Pat) (body : SM) : List D → SM
  | [], ρ, S => .nx ρ S
  | d :: ds, ρ, S => putM (p.put d ρ) fun ρ1 => stepD (forD p body ds) (body ρ1 S)
theorem forD_cons {p : Pat} {body : SM} {d : D} {ds : List D} {ρ : En} {S : Cells} : forD p body (d :: ds) ρ S = putM (p.put d ρ) fun ρ1 => stepD (forD p body ds) (body ρ1 S) := rfl
section
variable {X : Cx} {T : Tab} {EE : XX} {tg iter : Expr} {fi : En → M (List D)} {p : Pat} {body : List Stmt} {B : SM} {pos : Pos}
theorem es_for (hp : PassesOwn (model X.prog X.w) X.A X.env X.xe) (hc : X.calm = true) (hi : EvI X T EE tg iter fi) (hg : EvG X tg p) (hb : EvSs X T EE body B) (hs : ∀ x, foldedSetIterable iter X.env x = pure x := by intro _; rfl) :
    EvS X T EE (.For tg iter body [] pos) (bindS fi fun items => forD p B items) := by
  refine ⟨(ps_for hp hc hi.pi hg.pg hb.ps hs).dimp fun Dn σ H h => ?_⟩
  refine (show dG X.K T EE (repI X.K T) fi σ H _ from ?_)
  obtain ⟨_, _, _, _, h1, h2, h3⟩ := bindSD (rep := repI X.K T) h
  refine ⟨_, _, _, _, h1, h2, h3.imp fun J H1 ⟨items, γ1, hid, S1, ρ1, q1, q3, q4, q5⟩ => ?_⟩
  obtain ⟨z, q4⟩ := q4
  refine ⟨fun i m σ' H' => m = items.length - i ∧ i ≤ items.length ∧ ∃ γ2 S2 ρ2, Hold X.K T γ2 hid S2 H' ∧ (∀ (n : Nat) (a : Addr), γ1[n]? = some a → γ2[n]? = some a) ∧ Same (out γ1 S1 hid H1) (out γ2 S2 hid H') ∧ EnvR X.K T γ2 (out γ2 S2 hid H') ρ2 σ' ∧
    resS X.K T EE γ2 hid S2 H' (forD p B (items.drop i) ρ2 S2) Dn, ⟨items.length, by simp, Nat.zero_le _, γ1, S1, ρ1, q1, fun _ _ z => z, Same.refl _, q3, q5⟩, ?_⟩
  rintro i m σ' H' ⟨rfl, hi, γ2, S2, ρ2, w1, w2, w3, w4, w5⟩
  obtain ⟨g1, g2, g3⟩ := q4 γ2 hid S2 H' w2 w3 w1
  by_cases hlt : i < items.length
  · refine .inr ⟨g1 i hlt, fun σ3 H3 => i + 1 ≤ items.length ∧ ∃ γ2 S2 ρ2, Hold X.K T γ2 hid S2 H3 ∧ (∀ (n : Nat) (a : Addr), γ1[n]? = some a → γ2[n]? = some a) ∧ Same (out γ1 S1 hid H1) (out γ2 S2 hid H3) ∧ EnvR X.K T γ2 (out γ2 S2 hid H3) ρ2 σ3 ∧
      resS X.K T EE γ2 hid S2 H3 (forD p B (items.drop (i + 1)) ρ2 S2) Dn, fun σ3 H3 hN => ⟨items.length - (i + 1), by omega, rfl, hN⟩, fun x H3 y => ?_⟩
    obtain ⟨d, e1, k1, k2, k3⟩ := g3 i x H3 hlt y
    have ed : items.drop i = d :: items.drop (i + 1) := by
      rw [List.drop_eq_getElem_cons hlt]
      have := (List.getElem?_eq_some_iff.mp e1).2
      rw [this]
    rw [ed, forD_cons] at w5
    have w5 := w5.base k2
    have w4 := w4.mono k2.pre (k2.sameH hid)
    cases ep : p.put d ρ2 with
    | none =>
      rw [ep] at w5
      exact w5.elim
    | some ρ3 =>
      rw [ep] at w5
      have w5 : resS X.K T EE γ2 hid S2 H3 (stepD (forD p B (items.drop (i + 1))) (B ρ3 S2)) Dn := w5
      refine put_ok (out_sub _ _ _ _) p d x ρ2 ρ3 σ' _ w4 k3 ep fun σ4 n1 _ => ?_
      refine ⟨γ2, hid, S2, ρ3, k1, n1, ?_⟩
      have go : ∀ {γ' : List Addr} {H4 : Hp} {σ5 : St} {ρ5 : En} {S5 : Cells}, Hold X.K T γ' hid S5 H4 → Ext γ2 S2 H3 γ' S5 H4 → EnvR X.K T γ' (out γ' S5 hid H4) ρ5 σ5 → resS X.K T EE γ2 hid S2 H3 (forD p B (items.drop (i + 1)) ρ5 S5) Dn →
          i + 1 ≤ items.length ∧ ∃ γ2 S2 ρ2, Hold X.K T γ2 hid S2 H4 ∧ (∀ (n : Nat) (a : Addr), γ1[n]? = some a → γ2[n]? = some a) ∧ Same (out γ1 S1 hid H1) (out γ2 S2 hid H4) ∧ EnvR X.K T γ2 (out γ2 S2 hid H4) ρ2 σ5 ∧
            resS X.K T EE γ2 hid S2 H4 (forD p B (items.drop (i + 1)) ρ2 S2) Dn := fun {γ' H4 σ5 ρ5 S5} a1 a2 a3 a4 =>
        ⟨hlt, γ', S5, ρ5, a1, fun n a z => a2.pre n a (w2 n a z), w3.trans ((k2.trans a2).sameH hid), a3, a4.base a2⟩
      cases eb : B ρ3 S2 with
      | nx ρ5 S5 =>
        rw [eb] at w5
        exact fun γ' H4 σ5 a1 a2 a3 => go a1 a2 a3 w5
      | ct ρ5 S5 =>
        rw [eb] at w5
        exact fun γ' H4 σ5 a1 a2 a3 => go a1 a2 a3 w5
      | bk ρ5 S5 =>
        rw [eb] at w5
        exact fun γ' H4 σ5 a1 a2 a3 => w5 γ' H4 σ5 a1 a2 a3
      | rt d5 S5 =>
        rw [eb] at w5
        exact w5
      | er x5 ρ5 S5 =>
        rw [eb] at w5
        exact w5
      | stuck =>
        rw [eb] at w5
        exact w5.elim
  · have e : i = items.length := by omega
    subst e
    refine .inl ⟨g2, ?_⟩
    rw [List.drop_length] at w5
    exact w5 γ2 H' σ' w1 (Ext.refl _ _ _) w4
end

/-! ### while -/
def tstM (r : DL.R Bool) (ρ : En) (k : Cells → Out) : Out := match r with
  | .ok true S => k S
  | .ok false S => .nx ρ S
  | .err x S => .er x ρ S
  | .stuck => .stuck
def whileD (c : En → M Bool) (body : SM) : Nat → SM
  | 0, _, _ => .stuck
  | n + 1, ρ, S => tstM (c ρ S) ρ fun S1 => stepD (whileD c body n) (body ρ S1)
open Classical in
/-- with as many turns as are needed -/
noncomputable def whileW (c : En → M Bool) (body : SM) : SM := fun ρ S => if h : ∃ n, whileD c body n ρ S ≠ .stuck then whileD c body (Classical.choose h) ρ S else .stuck
theorem whileD_more {c : En → M Bool} {body : SM} : ∀ (n m : Nat) (ρ : En) (S : Cells), whileD c body n ρ S ≠ .stuck → n ≤ m → whileD c body m ρ S = whileD c body n ρ S
  | 0, _, ρ, S, h, _ => absurd rfl h
  | n + 1, 0, ρ, S, h, hm => by omega
  | n + 1, m + 1, ρ, S, h, hm => by
    have h : tstM (c ρ S) ρ (fun S1 => stepD (whileD c body n) (body ρ S1)) ≠ .stuck := h
    show tstM (c ρ S) ρ (fun S1 => stepD (whileD c body m) (body ρ S1)) = tstM (c ρ S) ρ (fun S1 => stepD (whileD c body n) (body ρ S1))
    cases e : c ρ S with
    | ok b S1 =>
      rw [e] at h
      cases b with
      | false => rfl
      | true =>
        have h : stepD (whileD c body n) (body ρ S1) ≠ .stuck := h
        show stepD (whileD c body m) (body ρ S1) = stepD (whileD c body n) (body ρ S1)
        cases eb : body ρ S1 with
        | nx ρ2 S2 =>
          rw [eb] at h
          exact whileD_more n m ρ2 S2 h (by omega)
        | ct ρ2 S2 =>
          rw [eb] at h
          exact whileD_more n m ρ2 S2 h (by omega)
        | bk ρ2 S2 => rfl
        | rt d S2 => rfl
        | er x ρ2 S2 => rfl
        | stuck => rfl
    | err x S1 => rfl
    | stuck => rfl
theorem whileW_of {c : En → M Bool} {body : SM} {n : Nat} {ρ : En} {S : Cells} {o : Out} (h : whileD c body n ρ S = o) (ho : o ≠ .stuck) : whileW c body ρ S = o := by
  have hn : whileD c body n ρ S ≠ .stuck := by rw [h]; exact ho
  have hx : ∃ n, whileD c body n ρ S ≠ .stuck := ⟨n, hn⟩
  unfold whileW
  rw [dif_pos hx]
  have h2 := Classical.choose_spec hx
  rcases Nat.le_total (Classical.choose hx) n with hle | hle
  · rw [← whileD_more _ n ρ S h2 hle]
    exact h
  · rw [whileD_more n _ ρ S hn hle]
    exact h
section
variable {X : Cx} {T : Tab} {EE : XX} {c : Expr} {tc : En → M Bool} {body : List Stmt} {B : SM} {pos : Pos}
theorem es_while (hp : PassesOwn (model X.prog X.w) X.A X.env X.xe) (hc : EvT X T EE c tc) (hb : EvSs X T EE body B) : EvS X T EE (.While c body [] pos) (whileW tc B) := by
  refine ⟨(ps_while hp hc.pt hb.ps).dimp fun Dn σ H h => ?_⟩
  obtain ⟨γ, hid, S, ρ, hold, env, h⟩ := h
  refine ⟨fun m σ' H' => ∃ γ2 S2 ρ2, Hold X.K T γ2 hid S2 H' ∧ EnvR X.K T γ2 (out γ2 S2 hid H') ρ2 σ' ∧ whileD tc B m ρ2 S2 ≠ .stuck ∧ resS X.K T EE γ2 hid S2 H' (whileD tc B m ρ2 S2) Dn, ?_, ?_⟩
  · unfold whileW at h
    split at h
    · rename_i hx
      exact ⟨_, γ, S, ρ, hold, env, Classical.choose_spec hx, h⟩
    · exact h.elim
  · rintro m σ' H' ⟨γ2, S2, ρ2, w1, w2, w3, w4⟩
    cases m with
    | zero => exact absurd rfl w3
    | succ m =>
      refine (show dG X.K T EE repB tc σ' H' _ from ?_)
      refine ⟨γ2, hid, S2, ρ2, w1, w2, ?_⟩
      have w3 : tstM (tc ρ2 S2) ρ2 (fun S1 => stepD (whileD tc B m) (B ρ2 S1)) ≠ .stuck := w3
      have w4 : resS X.K T EE γ2 hid S2 H' (tstM (tc ρ2 S2) ρ2 (fun S1 => stepD (whileD tc B m) (B ρ2 S1))) Dn := w4
      cases e : tc ρ2 S2 with
      | ok b S3 =>
        rw [e] at w3 w4
        intro γ3 H3 b' a1 a2 a3
        have a3' : b = b' := a3
        subst a3'
        have env3 := w2.mono a2.pre (a2.sameH hid)
        cases b with
        | false =>
          rw [if_neg Bool.false_ne_true]
          exact w4 γ3 H3 σ' a1 a2 env3
        | true =>
          rw [if_pos rfl]
          refine ⟨fun σ4 H4 => ∃ γ2 S2 ρ2, Hold X.K T γ2 hid S2 H4 ∧ EnvR X.K T γ2 (out γ2 S2 hid H4) ρ2 σ4 ∧ whileD tc B m ρ2 S2 ≠ .stuck ∧ resS X.K T EE γ2 hid S2 H4 (whileD tc B m ρ2 S2) Dn, fun σ4 H4 hN => ⟨m, Nat.lt_succ_self _, hN⟩, γ3, hid, S3, ρ2, a1, env3, ?_⟩
          have w3 : stepD (whileD tc B m) (B ρ2 S3) ≠ .stuck := w3
          have w4 : resS X.K T EE γ2 hid S2 H' (stepD (whileD tc B m) (B ρ2 S3)) Dn := w4
          have w4' := w4.base a2
          cases eb : B ρ2 S3 with
          | nx ρ5 S5 =>
            rw [eb] at w3 w4'
            exact fun γ' H4 σ5 b1 b2 b3 => ⟨γ', S5, ρ5, b1, b3, w3, w4'.base b2⟩
          | ct ρ5 S5 =>
            rw [eb] at w3 w4'
            exact fun γ' H4 σ5 b1 b2 b3 => ⟨γ', S5, ρ5, b1, b3, w3, w4'.base b2⟩
          | bk ρ5 S5 =>
            rw [eb] at w4'
            exact fun γ' H4 σ5 b1 b2 b3 => w4' γ' H4 σ5 b1 b2 b3
          | rt d5 S5 =>
            rw [eb] at w4'
            exact w4'
          | er x5 ρ5 S5 =>
            rw [eb] at w4'
            exact w4'
          | stuck =>
            rw [eb] at w3
            exact absurd rfl w3
      | err x S3 =>
        rw [e] at w4
        exact fun γ3 H3 a1 a2 => w4 γ3 H3 σ' a1 a2 (w2.mono a2.pre (a2.sameH hid))
      | stuck =>
        rw [e] at w3
        exact absurd rfl w3
end
end DL
end
section
set_option maxHeartbeats 2000000
/-! DLcg: a def's promise where no repr is under way (repr of lists asks who is being written). -/
namespace DL
open PySem PySem.Spec L2
open PyProof.Rows hiding St
abbrev NoRepr (A : Around) : Prop := A.guards = some []
structure FnG (P : Program) (w : World) (K : PySem.W.Frag) (mg : Str → Option Value) (base : Heap) (k : Nat) (f : Addr) (fd : FuncData) (ps : List Str) (sp : Sp) : Prop where
  len : ∀ vs H Q E, sp vs H Q E → vs.length = ps.length
  run : ∀ (A : Around) (outer : List Env) (s : Shared) (H : Hp) (args : Args) (us : List Value) (vs : List V) (Q : VK) (E : XK), Room k A → NoRepr A →
    Env0 P w K mg base A outer s H → BindsTo s fd args (ps.zip us) → Vals vs us → sp vs H Q E → codeAny (model P w) A (.call (.ref f) args) (CR CX0 outer P w H s Q E) s
theorem FnG.mono {P : Program} {w : World} {K : PySem.W.Frag} {mg : Str → Option Value} {base : Heap} {j k : Nat} {f : Addr} {fd : FuncData} {ps : List Str} {sp : Sp} (F : FnG P w K mg base j f fd ps sp) (h : j ≤ k) : FnG P w K mg base k f fd ps sp :=
  ⟨F.len, fun A outer s H args us vs Q E hr => F.run A outer s H args us vs Q E (hr.mono h)⟩
theorem FnG.imp {P : Program} {w : World} {K : PySem.W.Frag} {mg : Str → Option Value} {base : Heap} {k : Nat} {f : Addr} {fd : FuncData} {ps : List Str} {sp sp' : Sp} (F : FnG P w K mg base k f fd ps sp) (i : ∀ vs H Q E, sp' vs H Q E → sp vs H Q E) :
    FnG P w K mg base k f fd ps sp' :=
  ⟨fun vs H Q E z => F.len vs H Q E (i _ _ _ _ z), fun A outer s H args us vs Q E a b c d e g => F.run A outer s H args us vs Q E a b c d e (i _ _ _ _ g)⟩
theorem deeper_guards {A : Around} {env : Env} : (A.deeper env).guards = A.guards := rfl
section
variable {P : Program} {w : World} {K : PySem.W.Frag} {mg : Str → Option Value} {base : Heap}
theorem fng_ok {x qual : Str} {params : Arguments} {body : List Stmt} {scope : Scope} {dvs : List V} {kws : List (Str × V)} {f : Addr} {fd : FuncData} {N ps : List Str} {k : Nat} {sp : Sp} (F : FunD K x qual params body scope dvs kws f fd) (S : FnScope N ps scope) (len : ∀ vs H Q E, sp vs H Q E → vs.length = ps.length)
    (hbody : ∀ (cdv : Value) (A : Around) (outer : List Env) (s : Shared) (H : Hp) (vs : List V) (Q : VK) (E : XK), Room k (A.deeper (envOfC qual scope s.heap.objs.size f cdv)) → NoRepr (A.deeper (envOfC qual scope s.heap.objs.size f cdv)) → sp vs H Q E →
      ∃ t, PSs (cxOf CX0 P w K mg base N qual scope f cdv A outer s H E).nox body t ∧ t { nx := fun _ H' => Q .non H', rt := Q } (L2.start N vs) H) : FnG P w K mg base (k + 1) f fd ps sp := by
  obtain ⟨oc, od, dV, kV, doc, pm, an, cdv, ct, osl, rfl, lk, hcd, _, _⟩ := F.ex
  refine ⟨len, fun A outer s H args us vs Q E room nr ev bd rv promise => ?_⟩
  have vl := len _ _ _ _ promise
  have kin : K.In s.heap := ev.mod.kin.keeps fun b o e => (ev.bs b o e).1
  have nl : s.heap.NoLimit := ev.mod.nolimit.keeps fun b o e => (ev.bs b o e).1
  have kinds : ∀ y ∈ ps.zip us, scope.names.lookup y.1 = some .local ∨ (scope.names.lookup y.1 = some .cell ∧ ((cellsFrom (s.heap.objs.size + 1) scope.names []).lookup y.1).isSome = true) := fun ⟨m, v⟩ hm => by
    cases S.par m (List.of_mem_zip hm).1 with
    | inl z => exact .inl z
    | inr z => exact .inr ⟨z, PySem.W.cellsFrom_some _ _ _ (.inl z)⟩
  refine codeAny_call_function room.depth (kin _ _ lk) rfl S.co S.gen rfl (PySem.W.codeRec_of kin hcd) (bd _ _ _ _ ?_)
  refine wpAny_newFunctionEnv_cells S.kind kinds fun env ee s1 ic => ?_
  subst ee
  refine ⟨nl.keeps ic.toInCall.keep, codeAny_func ?_⟩
  obtain ⟨t, ht, reading⟩ := hbody cdv A outer s H vs Q E (room.deeper _) nr promise
  have I0 : Inv (cxOf CX0 P w K mg base N qual scope f cdv A outer s H E) [] (L2.start N vs) H s1 := inv_start S room.hd ev vl rv ic
  refine wpAny_mono (ht.nox.run [] s1 (L2.start N vs) H _ I0 reading) (fun flow s' hs => ?_) fun e s' hs => hs
  cases flow with
  | ret u =>
    obtain ⟨v, σ', H', J, r, z⟩ := hs
    exact ⟨v, H', J.os, J.bare, J.base, J.hok, r, z⟩
  | next =>
    obtain ⟨σ', H', J, z⟩ := hs
    exact ⟨V.non, H', J.os, J.bare, J.base, J.hok, rfl, z⟩
  | brk =>
    obtain ⟨_, _, _, z⟩ := hs
    exact z.elim
  | cont =>
    obtain ⟨_, _, _, z⟩ := hs
    exact z.elim
end
section
variable {X : Cx} {k : Nat} {f C : Addr} {fd : FuncData} {ps : List Str} {sp : Sp} {x m : Str} {p pos apos : Pos} {e o : Expr} {es : List Expr} {ta : TE} {t : TA} {E : XK}
theorem rung {pins : List (Addr × Obj)} {σ : St} {H : Hp} {s : Shared} {Q : VK} {us : List Value} {vs : List V} (F : FnG X.prog X.w X.K X.mg X.base k f fd ps sp) (hr : Room k X.A) (nr : NoRepr X.A) (hb : Binds X.K fd ps [])
    (I : Inv X pins σ H s) (r : Vals vs us) (h : sp vs H Q E) : wpAny (model X.prog X.w) X.A (call (.ref f) us) (EP X pins σ Q) X.xe s := by
  have hl : us.length = ps.length := by rw [← r.length]; exact F.len _ _ _ _ h
  have hb' := hb s us I.kIn (by rw [List.append_nil]; exact hl)
  rw [List.append_nil] at hb'
  refine wpAny_call (codeAny_mono (F.run X.A X.stack s H ⟨us, []⟩ us vs Q E hr nr I.env0 hb' r h) fun res s' z => ?_)
  cases res with
  | error e => exact z.elim
  | ok flow =>
    cases flow with
    | ret u => exact I.after z
    | next => exact False.elim z
    | brk => exact False.elim z
    | cont => exact False.elim z
theorem pg_call (F : FnG X.prog X.w X.K X.mg X.base k f fd ps sp) (hr : Room k X.A) (nr : NoRepr X.A) (hg : Gl X x) (hm : X.mg x = some (.ref f)) (hk : PySem.W.keepIn X.K (.ref f) = true) (hb : Binds X.K fd ps [])
    (ha : PA X (e :: es) t) (hdb : (x == ("__debug__" : Str)) = false := by decide) (he : starEach (e :: es) X.env = (false, eval e X.env) :: starEach es X.env := by rfl) (hpl : (backTo pos (starEach es X.env)).any (·.1) = false := by rfl) :
    PE X (.Call (.Name x p) (e :: es) [] pos) (tCall sp [] E t) := by
  refine ⟨fun pins s σ H Q I h => wpAny_Call_Name_kw (ld_glob I hg hm ?_ hdb)⟩
  refine PySem.W.callWith_K (h₀ := X.base) I.ok.mod.kin hk (thn (ha.run pos pins s σ H _ I h) fun us s1 ⟨vs, H1, I1, r, z⟩ => ⟨I1.kIn, ?_⟩) he hpl
  have z : sp (vs ++ []) H1 Q E := z
  rw [List.append_nil] at z
  exact rung F hr nr hb I1 r z
theorem pg_call0 (F : FnG X.prog X.w X.K X.mg X.base k f fd ps sp) (hr : Room k X.A) (nr : NoRepr X.A) (hg : Gl X x) (hm : X.mg x = some (.ref f)) (hk : PySem.W.keepIn X.K (.ref f) = true) (hb : Binds X.K fd ps [])
    (hdb : (x == ("__debug__" : Str)) = false := by decide) : PE X (.Call (.Name x p) [] [] pos) (tCall sp [] E tNil) := by
  refine ⟨fun pins s σ H Q I h => wpAny_Call_Name_kw (ld_glob I hg hm ?_ hdb)⟩
  exact PySem.W.callWith_K0 I.kIn hk (rung (us := []) F hr nr hb I .nil h)
/-- o.m(e, ..) of an instance of a class of the text -/
theorem pg_meth {pl : Sem Bool} (he : PE X o ta) (c : Cls X.K C) (hm : Meth X.K C m f) (F : FnG X.prog X.w X.K X.mg X.base k f fd ps sp) (hr : Room k X.A) (nr : NoRepr X.A) (hb : Binds X.K fd ps []) (ha : PA X (e :: es) t)
    (hst : starEach (e :: es) X.env = (false, eval e X.env) :: starEach es X.env := by rfl) (hpl : (backTo pos (starEach es X.env)).any (·.1) = false := by rfl)
    (ht : eval (.Call (.Attribute o m apos) (e :: es) [] pos) X.env = (do
      let recv ← eval o X.env
      standAt apos.atName
      let (g, h) ← holding [recv] (getMethod recv m pl)
      callWith pos g h (backTo pos (starEach (e :: es) X.env)) (backToKw pos (keywordEach [] X.env))) := by rfl) :
    PE X (.Call (.Attribute o m apos) (e :: es) [] pos) (tMeth C m sp [] E ta t) := by
  refine ⟨fun pins s σ H Q I h => PySem.W.methodCall_KW (pl := pl) (thn (he.run pins s σ H _ I h) fun u s1 ⟨x, H1, I1, rx, a, dx, fs, ex, ea, l, z⟩ => ?_) ht⟩
  subst ex
  obtain rfl : u = Value.ref a := rx
  refine getmeth_ok I1 ea c hm l (PySem.W.callWith_K (first := [.ref a]) (h₀ := X.base) I.ok.mod.kin hm.kp (thn (ha.run pos pins s1 σ H1 _ I1 z) fun us s2 ⟨vs, H2, I2, r, z2⟩ => ⟨I2.kIn, ?_⟩) hst hpl)
  have z2 : sp (.ref a :: (vs ++ [])) H2 Q E := z2
  rw [List.append_nil] at z2
  exact rung (us := .ref a :: us) (vs := .ref a :: vs) F hr nr hb I2 (.cons rfl r) z2
theorem pg_meth0 {pl : Sem Bool} (he : PE X o ta) (c : Cls X.K C) (hm : Meth X.K C m f) (F : FnG X.prog X.w X.K X.mg X.base k f fd ps sp) (hr : Room k X.A) (nr : NoRepr X.A) (hb : Binds X.K fd ps [])
    (ht : eval (.Call (.Attribute o m apos) [] [] pos) X.env = (do
      let recv ← eval o X.env
      standAt apos.atName
      let (g, h) ← holding [recv] (getMethod recv m pl)
      callWith pos g h (backTo pos (starEach [] X.env)) (backToKw pos (keywordEach [] X.env))) := by rfl) :
    PE X (.Call (.Attribute o m apos) [] [] pos) (tMeth C m sp [] E ta tNil) := by
  refine ⟨fun pins s σ H Q I h => PySem.W.methodCall_KW (pl := pl) (thn (he.run pins s σ H _ I h) fun u s1 ⟨x, H1, I1, rx, a, dx, fs, ex, ea, l, z⟩ => ?_) ht⟩
  subst ex
  obtain rfl : u = Value.ref a := rx
  exact getmeth_ok I1 ea c hm l (PySem.W.callWith_K0 (first := [.ref a]) I1.kIn hm.kp (rung (us := [.ref a]) (vs := [.ref a]) F hr nr hb I1 (.cons rfl .nil) z))
/-- C(..) of a class of the text with an __init__ -/
theorem rung_make {pins : List (Addr × Obj)} {σ : St} {H : Hp} {s : Shared} {Q : VK} {us : List Value} {vs : List V} (M : Mk X.K C f) (F : FnG X.prog X.w X.K X.mg X.base k f fd ps sp) (hr : Room (k + 1) X.A) (nr : NoRepr X.A) (hb : Binds X.K fd ps []) (I : Inv X pins σ H s) (r : Vals vs us)
    (h : ∀ x dx, H x = none → H dx = none → dx ≠ x → sp (.ref x :: vs) (upd (upd H dx (.own x)) x (.ins C dx [])) (fun v H2 => v = .non ∧ Q (.ref x) H2) E) :
    wpAny (model X.prog X.w) X.A (call (.ref C) us) (EP X pins σ Q) X.xe s := by
  have z0 := h (s.heap.objs.size + 1) s.heap.objs.size (I.hok.fresh (Nat.le_succ _)) (I.hok.fresh (Nat.le_refl _)) (Nat.ne_of_lt (Nat.lt_succ_self _))
  have I2 := Inv.made (C := C) I
  have r2 : Vals (V.ref (s.heap.objs.size + 1) :: vs) (Value.ref (s.heap.objs.size + 1) :: us) := .cons rfl r
  have hl : (Value.ref (s.heap.objs.size + 1) :: us).length = ps.length := by
    rw [← r2.length]
    exact F.len _ _ _ _ z0
  have hb' := hb _ (Value.ref (s.heap.objs.size + 1) :: us) I2.kIn (by rw [List.append_nil]; exact hl)
  rw [List.append_nil] at hb'
  refine wpAny_call (make_map (f := f) I.kIn M.makes M.init (beq_iff_eq.mp M.fn) (codeAny_mono (F.run _ X.stack _ _ ⟨Value.ref (s.heap.objs.size + 1) :: us, []⟩ (Value.ref (s.heap.objs.size + 1) :: us) _ _ E (hr.make C us [])
    ?nr (I2.env0.make C us []) hb' r2 z0) fun res s' z => ?_))
  case nr =>
    show (X.A.under (.builtin "type.__call__" ⟨.ref C :: us, []⟩)).guards = some []
    have e : (X.A.under (.builtin "type.__call__" ⟨.ref C :: us, []⟩)).guards = X.A.guards := by
      show pushGuards (Code.guards (.builtin "type.__call__" ⟨.ref C :: us, []⟩)) X.A.guards = X.A.guards
      have g : Code.isGuard (.builtin "type.__call__" ⟨.ref C :: us, []⟩) = false := by
        show guardIds.contains "type.__call__" = false
        decide
      unfold Code.guards
      rw [g]
      rfl
    rw [e]
    exact nr
  cases res with
  | error e => exact z.elim
  | ok flow =>
    cases flow with
    | ret u =>
      obtain ⟨v, H', I3, rv, ev, z3⟩ := I2.after z
      subst ev
      exact ⟨rv, ⟨V.ref (s.heap.objs.size + 1), H', I3, rfl, z3⟩⟩
    | next => exact False.elim z
    | brk => exact False.elim z
    | cont => exact False.elim z
theorem pg_make (M : Mk X.K C f) (F : FnG X.prog X.w X.K X.mg X.base k f fd ps sp) (hr : Room (k + 1) X.A) (nr : NoRepr X.A) (hg : Gl X x) (hm : X.mg x = some (.ref C)) (hb : Binds X.K fd ps [])
    (ha : PA X (e :: es) t) (hdb : (x == ("__debug__" : Str)) = false := by decide) (he : starEach (e :: es) X.env = (false, eval e X.env) :: starEach es X.env := by rfl) (hpl : (backTo pos (starEach es X.env)).any (·.1) = false := by rfl) :
    PE X (.Call (.Name x p) (e :: es) [] pos) (tMake C sp [] E t) := by
  refine ⟨fun pins s σ H Q I h => wpAny_Call_Name_kw (ld_glob I hg hm ?_ hdb)⟩
  refine PySem.W.callWith_K (h₀ := X.base) I.ok.mod.kin M.kp (thn (ha.run pos pins s σ H _ I h) fun us s1 ⟨vs, H1, I1, r, z⟩ => ⟨I1.kIn, ?_⟩) he hpl
  have z : ∀ x dx, H1 x = none → H1 dx = none → dx ≠ x → sp (.ref x :: (vs ++ [])) (upd (upd H1 dx (.own x)) x (.ins C dx [])) (fun v H2 => v = .non ∧ Q (.ref x) H2) E := z
  rw [List.append_nil] at z
  exact rung_make M F hr nr hb I1 r z
end
end DL
end
section
set_option maxHeartbeats 2000000
/-! DLd: comprehensions, what a def promises, calls. -/
namespace DL
open PySem PySem.Spec L2
open PyProof.Rows hiding St

def wipeD (ρ : En) : List Nat → En
  | [] => ρ
  | v :: vs => (wipeD ρ vs).set v none
theorem wipeD_get (ρ : En) : ∀ (vs : List Nat) (j : Nat), (wipeD ρ vs)[j]? = if j ∈ vs then (if j < ρ.length then some none else none) else ρ[j]?
  | [], j => by simp [wipeD]
  | v :: vs, j => by
    have hl : ∀ vs : List Nat, (wipeD ρ vs).length = ρ.length := fun vs => by
      induction vs with
      | nil => rfl
      | cons v vs ih => unfold wipeD; rw [List.length_set, ih]
    unfold wipeD
    rw [List.getElem?_set, wipeD_get ρ vs j, hl]
    by_cases h : v = j
    · subst h
      simp
    · simp [h, Ne.symm h]
theorem wipeD_length (ρ : En) : ∀ vs : List Nat, (wipeD ρ vs).length = ρ.length
  | [] => rfl
  | v :: vs => by unfold wipeD; rw [List.length_set, wipeD_length ρ vs]
theorem EnvR.wipe {K : PySem.W.Frag} {T : Tab} {γ : List Addr} {F : Hp} {ρ : En} {σ : St} (e : EnvR K T γ F ρ σ) (vs : List Nat) : EnvR K T γ F (wipeD ρ vs) (wipe σ vs) := by
  refine ⟨by rw [wipeD_length, wipe_length, e.len], fun i d h => ?_⟩
  rw [wipeD_get] at h
  by_cases hi : i ∈ vs
  · rw [if_pos hi] at h
    split at h <;> cases h
  · rw [if_neg hi] at h
    obtain ⟨v, h1, h2⟩ := e.get i d h
    exact ⟨v, by rw [wipe_get, if_neg hi]; exact h1, h2⟩
/-- nothing is raised in a comprehension -/
def calmM {α : Type} (f : M α) : M α := fun S => match f S with
  | .ok a S' => .ok a S'
  | .err _ _ => .stuck
  | .stuck => .stuck
theorem calm_of {α : Type} {f : M α} {S S' : Cells} {a : α} (e : f S = .ok a S') : calmM f S = .ok a S' := by
  unfold calmM
  rw [e]
def putC {α : Type} (o : Option En) (k : En → M α) : M α := match o with
  | some ρ => k ρ
  | none => fun _ => .stuck
def compD (p : Pat) (ft : En → M Bool) (fe : En → M D) (ρ : En) : List D → M (List D)
  | [] => fun S => .ok [] S
  | d :: ds => putC (p.put d ρ) fun ρ1 => M.bind (calmM (ft ρ1)) fun b => if b = true then M.bind (calmM (fe ρ1)) fun y => M.bind (compD p ft fe ρ ds) fun l S => .ok (y :: l) S else compD p ft fe ρ ds
structure EvTs (X : Cx) (T : Tab) (EE : XX) (ifs : List Expr) (f : En → M Bool) : Prop where
  pts : PTs X ifs (dT X.K T EE f)
theorem _root_.L2.PTs.dimp {X : Cx} {e : List Expr} {t t' : TT} (h : PTs X e t) (i : ∀ σ H Q, t' σ H Q → t σ H Q) : PTs X e t' := ⟨fun pins s σ H Q I q => h.run pins s σ H Q I (i _ _ _ q)⟩
section
variable {X : Cx} {T : Tab} {EE : XX}
def yesM : M Bool := fun S => .ok true S
theorem ets_nil : EvTs X T EE [] (fun _ => yesM) := ⟨pts_nil.dimp fun σ H Q h => by
  obtain ⟨γ, hid, S, ρ, hold, env, h⟩ := h
  exact h γ H true hold (Ext.refl _ _ _) rfl⟩
theorem ets_one {c : Expr} {f : En → M Bool} (h : EvT X T EE c f) : EvTs X T EE [c] f := ⟨pts_one h.pt⟩
/-- an address is taken out -/
def era (H : Hp) (p : Addr) : Hp := fun b => if b = p then none else H b
theorem era_same {H : Hp} {p : Addr} : era H p p = none := by unfold era; rw [if_pos rfl]
theorem era_ne {H : Hp} {p b : Addr} (h : b ≠ p) : era H p b = H b := by unfold era; rw [if_neg h]
theorem era_upd {H : Hp} {p : Addr} {o : HO} (h : H p = some o) : upd (era H p) p o = H := by
  funext b
  by_cases e : b = p
  · subst e
    rw [upd_same, h]
  · rw [upd_ne e, era_ne e]
theorem out_era {γ : List Addr} {S : Cells} {hid : List Addr} {H : Hp} {p : Addr} (b : Addr) : out γ S hid (era H p) b = out γ S (p :: hid) H b := by
  unfold out era
  by_cases e : b = p
  · simp [e]
  · simp [e]
theorem Hold.unhide {K : PySem.W.Frag} {γ hid : List Addr} {S : Cells} {H : Hp} {p : Addr} (h : Hold K T γ (p :: hid) S H) (hp : p ∉ hid) : Hold K T γ hid S (era H p) := by
  refine ⟨h.len, h.nd, fun n a c e1 e2 => ?_, fun a ha => ?_, fun a ha => h.hidG a (List.mem_cons_of_mem _ ha)⟩
  · obtain ⟨o, ho, r⟩ := h.cell n a c e1 e2
    have ne : a ≠ p := fun z => h.hidG p List.mem_cons_self (z ▸ List.mem_of_getElem? e1)
    exact ⟨o, by rw [era_ne ne]; exact ho, r.mono fun b u hb => by rw [out_era]; exact hb⟩
  · have ne : a ≠ p := fun z => hp (z ▸ ha)
    rw [era_ne ne]
    exact h.hidT a (List.mem_cons_of_mem _ ha)
/-- what has been made is put ahead -/
def preR (acc : List D) : DL.R (List D) → DL.R (List D)
  | .ok l S => .ok (acc ++ l) S
  | .err x S => .err x S
  | .stuck => .stuck
theorem preR_nil (r : DL.R (List D)) : preR [] r = r := by cases r <;> rfl
theorem preR_app (a b : List D) (r : DL.R (List D)) : preR a (preR b r) = preR (a ++ b) r := by
  cases r <;> simp [preR]
theorem bind_pre {f : M (List D)} {y : D} {S : Cells} : (M.bind f fun l S => .ok (y :: l) S) S = preR [y] (f S) := by
  unfold M.bind
  cases f S <;> rfl
/-- THE READING of a comprehension -/
theorem lc_ok {K : PySem.W.Frag} {fi : En → M (List D)} {p : Pat} {ft : En → M Bool} {fe : En → M D} {vs : List Nat} {σ : St} {H : Hp} {Q : VK} (hsl : ∀ i ∈ p.slots, i ∈ vs)
    (h : dL K T EE (fun ρ => M.bind (fi ρ) fun items => compD p ft fe (wipeD ρ vs) items) σ H Q) : tLc (dI K T EE fi) (p.tg K) (dT K T XX0 ft) (dE K T XX0 fe) vs σ H Q := by
  refine (show dG K T EE (repI K T) fi σ H _ from ?_)
  obtain ⟨_, _, _, _, h1, h2, h3⟩ := bindD (rep := repI K T) h
  refine ⟨_, _, _, _, h1, h2, h3.imp fun J H1 ⟨items, γ1, hid, S1, ρ1, q1, q3, q4, q5⟩ D nD => ?_⟩
  obtain ⟨z, q4⟩ := q4
  obtain ⟨hh, sm0⟩ := q1.hide nD (.lst [])
  have nDh : D ∉ hid := (q1.fresh nD).2
  have smI : Same (out γ1 S1 [] H1) (out γ1 S1 [D] (upd H1 D (.lst []))) := fun b o hb => by
    obtain ⟨a1, a2, a3⟩ := out_some.mp hb
    have ne := ne_of_none a3 nD
    exact out_some.mpr ⟨by simp [ne], a2, by rw [upd_ne ne]; exact a3⟩
  have envw := (q3.wipe vs)
  refine ⟨fun i m H' => m = items.length - i ∧ i ≤ items.length ∧ ∃ γ2 S2 accd acc, Hold K T γ2 (D :: hid) S2 H' ∧ (∀ (n : Nat) (a : Addr), γ1[n]? = some a → γ2[n]? = some a) ∧ Same (out γ1 S1 [] H1) (out γ2 S2 [D] H') ∧ Same (out γ1 S1 hid H1) (out γ2 S2 (D :: hid) H') ∧
      H' D = some (.lst acc) ∧ acc.length ≤ i ∧ RpL K T γ2 (out γ2 S2 (D :: hid) H') accd acc ∧ compD p ft fe (wipeD ρ1 vs) items S1 = preR accd (compD p ft fe (wipeD ρ1 vs) (items.drop i) S2),
    ⟨items.length, by simp, Nat.zero_le _, γ1, S1, [], [], hh, fun _ _ z => z, smI, sm0, upd_same, Nat.le_refl _, .nil, by rw [preR_nil, List.drop_zero]⟩, ?_⟩
  rintro i m H' ⟨rfl, hi, γ2, S2, accd, acc, w1, w2, w3, w4, w5, w6, w7, w8⟩
  obtain ⟨g1, g2, g3⟩ := q4 γ2 (D :: hid) S2 H' w2 w4 w1
  by_cases hlt : i < items.length
  · refine .inr ⟨g1 i hlt, fun H3 => i + 1 ≤ items.length ∧ ∃ γ2 S2 accd acc, Hold K T γ2 (D :: hid) S2 H3 ∧ (∀ (n : Nat) (a : Addr), γ1[n]? = some a → γ2[n]? = some a) ∧ Same (out γ1 S1 [] H1) (out γ2 S2 [D] H3) ∧ Same (out γ1 S1 hid H1) (out γ2 S2 (D :: hid) H3) ∧
        H3 D = some (.lst acc) ∧ acc.length ≤ i + 1 ∧ RpL K T γ2 (out γ2 S2 (D :: hid) H3) accd acc ∧ compD p ft fe (wipeD ρ1 vs) items S1 = preR accd (compD p ft fe (wipeD ρ1 vs) (items.drop (i + 1)) S2), fun H3 hN => ⟨items.length - (i + 1), by omega, rfl, hN⟩, fun x H3 y => ?_⟩
    obtain ⟨d, e1, k1, k2, k3⟩ := g3 i x H3 hlt y
    have ed : items.drop i = d :: items.drop (i + 1) := by
      rw [List.drop_eq_getElem_cons hlt]
      have := (List.getElem?_eq_some_iff.mp e1).2
      rw [this]
    have key : compD p ft fe (wipeD ρ1 vs) items S1 = preR accd (putC (p.put d (wipeD ρ1 vs)) (fun ρ1' => M.bind (calmM (ft ρ1')) fun b => if b = true then M.bind (calmM (fe ρ1')) fun y => M.bind (compD p ft fe (wipeD ρ1 vs) (items.drop (i + 1))) fun l S => .ok (y :: l) S else compD p ft fe (wipeD ρ1 vs) (items.drop (i + 1))) S2) := by
      rw [w8, ed]
      rfl
    -- the result is wanted, so no step is stuck
    have q5' : resG K T EE (repL K T) γ1 hid S1 H1 ρ1 σ (compD p ft fe (wipeD ρ1 vs) items S1) (fun vs H' => ∀ p, H' p = none → Q (.ref p) (upd H' p (.lst vs))) := q5
    rw [key] at q5'
    cases ep : p.put d (wipeD ρ1 vs) with
    | none =>
      rw [ep] at q5'
      exact q5'.elim
    | some ρ3 =>
      rw [ep] at q5' key
      have q5' : resG K T EE (repL K T) γ1 hid S1 H1 ρ1 σ (preR accd ((M.bind (calmM (ft ρ3)) fun b => if b = true then M.bind (calmM (fe ρ3)) fun y => M.bind (compD p ft fe (wipeD ρ1 vs) (items.drop (i + 1))) fun l S => .ok (y :: l) S else compD p ft fe (wipeD ρ1 vs) (items.drop (i + 1))) S2)) (fun vs H' => ∀ p, H' p = none → Q (.ref p) (upd H' p (.lst vs))) := q5'
      have key : compD p ft fe (wipeD ρ1 vs) items S1 = preR accd ((M.bind (calmM (ft ρ3)) fun b => if b = true then M.bind (calmM (fe ρ3)) fun y => M.bind (compD p ft fe (wipeD ρ1 vs) (items.drop (i + 1))) fun l S => .ok (y :: l) S else compD p ft fe (wipeD ρ1 vs) (items.drop (i + 1))) S2) := key
      have env2 : EnvR K T γ2 (out γ2 S2 (D :: hid) H3) (wipeD ρ1 vs) (wipe σ vs) := (envw.mono w2 w4).mono k2.pre (k2.sameH _)
      refine put_ok (out_sub _ _ _ _) p d x (wipeD ρ1 vs) ρ3 (wipe σ vs) _ env2 k3 ep fun σ4 n1 n2 => ⟨by rw [n2 vs hsl, wipe_wipe], ?_⟩
      refine (show dG K T XX0 repB ft σ4 H3 _ from ?_)
      refine ⟨γ2, D :: hid, S2, ρ3, k1, n1, ?_⟩
      cases et : ft ρ3 S2 with
      | err x5 S5 =>
        rw [bind_of_stuck (by unfold calmM; rw [et])] at q5'
        exact q5'.elim
      | stuck =>
        rw [bind_of_stuck (by unfold calmM; rw [et])] at q5'
        exact q5'.elim
      | ok b S5 =>
        rw [bind_of_ok (calm_of et)] at q5' key
        intro γ5 H5 b' a1 a2 a3
        have a3' : b = b' := a3
        subst a3'
        have w5' : H5 D = some (.lst acc) := a2.hid k1 List.mem_cons_self (k2.hid w1 List.mem_cons_self w5)
        cases b with
        | false =>
          rw [if_neg Bool.false_ne_true] at q5' key
          rw [if_neg Bool.false_ne_true]
          exact ⟨hlt, γ5, S5, accd, acc, a1, fun n a z => a2.pre n a (k2.pre n a (w2 n a z)), (w3.trans (k2.sameH _)).trans (a2.sameH _), (w4.trans (k2.sameH _)).trans (a2.sameH _), w5', by omega, a2.rpl (k2.rpl w7), key⟩
        | true =>
          rw [if_pos rfl] at q5' key
          rw [if_pos rfl]
          refine (show dG K T XX0 (repE K T) fe σ4 H5 _ from ?_)
          refine ⟨γ5, D :: hid, S5, ρ3, a1, n1.mono a2.pre (a2.sameH _), ?_⟩
          cases ee : fe ρ3 S5 with
          | err x6 S6 =>
            rw [bind_of_stuck (by unfold calmM; rw [ee])] at q5'
            exact q5'.elim
          | stuck =>
            rw [bind_of_stuck (by unfold calmM; rw [ee])] at q5'
            exact q5'.elim
          | ok yd S6 =>
            rw [bind_of_ok (calm_of ee)] at q5' key
            intro γ6 H6 y' c1 c2 c3
            have w6' : H6 D = some (.lst acc) := c2.hid a1 List.mem_cons_self w5'
            obtain ⟨r1, r2⟩ := c1.rewrite (p := D) List.mem_cons_self (.lst (acc ++ [y']))
            have r3 : ∀ hd, D ∈ hd → Same (out γ6 S6 hd H6) (out γ6 S6 hd (upd H6 D (.lst (acc ++ [y'])))) := fun hd hD b o hb => by
              obtain ⟨b1, b2, b3⟩ := out_some.mp hb
              exact out_some.mpr ⟨b1, b2, by rw [upd_ne (fun z : b = D => b1 (by rw [z]; exact hD))]; exact b3⟩
            refine ⟨acc, w6', by omega, hlt, γ6, S6, accd ++ [yd], acc ++ [y'], r1, fun n a z => c2.pre n a (a2.pre n a (k2.pre n a (w2 n a z))), (((w3.trans (k2.sameH _)).trans (a2.sameH _)).trans (c2.sameH _)).trans (r3 _ List.mem_cons_self), (((w4.trans (k2.sameH _)).trans (a2.sameH _)).trans (c2.sameH _)).trans (r3 _ List.mem_cons_self), upd_same, by rw [List.length_append]; simp; omega, ?_, ?_⟩
            · exact RpL.mono (fun _ _ z => z) (r3 _ List.mem_cons_self) _ _ ((c2.rpl (a2.rpl (k2.rpl w7))).append (.one c3))
            · rw [key, ← preR_app]
              rw [bind_pre]
  · have e : i = items.length := by omega
    subst e
    refine .inl ⟨g2, ?_⟩
    rw [List.drop_length] at w8
    have q5' : resG K T EE (repL K T) γ1 hid S1 H1 ρ1 σ (compD p ft fe (wipeD ρ1 vs) items S1) (fun vs H' => ∀ p, H' p = none → Q (.ref p) (upd H' p (.lst vs))) := q5
    rw [w8] at q5'
    have q6 := q5' γ2 (era H' D) acc (w1.unhide nDh) ⟨w2, fun b o hb => by rw [out_era]; exact w3 b o hb⟩ ⟨?_, ?_⟩ D era_same
    · rw [era_upd w5] at q6
      exact q6
    · rw [List.append_nil, w7.length]
      omega
    · rw [List.append_nil]
      exact RpL.mono (fun _ _ z => z) (fun b o hb => by rw [out_era]; exact hb) _ _ w7
theorem evL_lc {elt tg iter : Expr} {ifs : List Expr} {scope : Scope} {own : List (Str × Nat)} {pos : Pos} {fi : En → M (List D)} {p : Pat} {ft : En → M Bool} {fe : En → M D} (hc : X.calm = true) (hN : X.N.Nodup) (hi : EvI X T EE tg iter fi) (ok : BlkOk X.N X.env.scope scope own)
    (hg : ∀ (s : Shared) (H : Hp) (C : Addr) (cl : List (Str × Addr)) (fp : List Addr), EvG (X.blk s H scope (compEnvC scope cl C X.env) fp) tg p) (ht : ∀ (s : Shared) (H : Hp) (C : Addr) (cl : List (Str × Addr)) (fp : List Addr), EvTs (X.blk s H scope (compEnvC scope cl C X.env) fp) T XX0 ifs ft)
    (he : ∀ (s : Shared) (H : Hp) (C : Addr) (cl : List (Str × Addr)) (fp : List Addr), EvE (X.blk s H scope (compEnvC scope cl C X.env) fp) T XX0 elt fe) (hsl : ∀ i ∈ p.slots, i ∈ own.map (·.2) := by decide) (hs : ∀ x, foldedSetIterable iter X.env x = pure x := by intro _; rfl) :
    EvL X T EE (.ListComp elt [⟨tg, iter, ifs, 0⟩] scope pos) (fun ρ => M.bind (fi ρ) fun items => compD p ft fe (wipeD ρ (own.map (·.2))) items) :=
  ⟨(pe_lc hc hN hi.pi ok (fun s H C cl fp => (hg s H C cl fp).pg) (fun s H C cl fp => (ht s H C cl fp).pts) (fun s H C cl fp => (he s H C cl fp).pe) hs).dimp fun σ H Q h => lc_ok hsl h⟩
/-- from a new list to what is done with it -/
theorem frz_read {K : PySem.W.Frag} {fl : En → M (List D)} {σ : St} {H : Hp} {Q : VK} (h : dE K T EE (fun ρ => M.bind (fl ρ) fun l => kon (.lst l)) σ H Q) : dL K T EE fl σ H Q := by
  refine (show dG K T EE (repL K T) fl σ H _ from ?_)
  obtain ⟨_, _, _, _, h1, h2, h3⟩ := bindD (rep := repL K T) h
  refine ⟨_, _, _, _, h1, h2, h3.imp fun vs H1 ⟨l, γ1, hid, S1, ρ, q1, q3, q4, q5⟩ p np => ?_⟩
  obtain ⟨a1, a2, a3⟩ := q1.lay np (.lst vs)
  exact q5 γ1 _ _ a1 a2 (.lst (SqL.of (a3 hid (q1.fresh np).2)) q4.1 (a2.rpl q4.2))
theorem cell_read {K : PySem.W.Frag} {fl : En → M (List D)} {σ : St} {H : Hp} {Q : VK} (h : dE K T EE (fun ρ => M.bind (fl ρ) newC) σ H Q) : dL K T EE fl σ H Q := by
  refine (show dG K T EE (repL K T) fl σ H _ from ?_)
  obtain ⟨_, _, _, _, h1, h2, h3⟩ := bindD (rep := repL K T) h
  refine ⟨_, _, _, _, h1, h2, h3.imp fun vs H1 ⟨l, γ1, hid, S1, ρ, q1, q3, q4, q5⟩ p np => ?_⟩
  unfold newC M.chg at q5
  by_cases fl : flatL l = true
  · simp only [if_pos fl] at q5
    obtain ⟨a1, a2⟩ := q1.newCell np (.lst q4.1 (RpL.toflat _ _ fl q4.2))
    refine q5 _ _ _ a1 a2 (.ref ?_)
    rw [← q1.len, List.getElem?_append_right (Nat.le_refl _), Nat.sub_self]
    rfl
  · simp only [if_neg fl] at q5
    exact q5.elim
theorem set_read {K : PySem.W.Frag} {f : En → M D} {i : Nat} {σ : St} {H : Hp} {Dn : Ends} (h : dS K T EE (bindS f fun d ρ S => .nx (ρ.set i (some d)) S) Dn σ H) : dE K T EE f σ H fun x H1 => Dn.nx (σ.set i (some x)) H1 := by
  refine (show dG K T EE (repE K T) f σ H _ from ?_)
  obtain ⟨_, _, _, _, h1, h2, h3⟩ := bindSD (rep := repE K T) h
  refine ⟨_, _, _, _, h1, h2, h3.imp fun v H1 ⟨d, γ1, hid, S1, ρ, q1, q3, q4, q5⟩ => ?_⟩
  exact q5 γ1 H1 _ q1 (Ext.refl _ _ _) (q3.set i q4)
section
variable {i : Nat} {y : Str} {py : Pos} {elt tg iter : Expr} {ifs : List Expr} {scope : Scope} {own : List (Str × Nat)} {pos spos : Pos} {fi : En → M (List D)} {p : Pat} {ft : En → M Bool} {fe : En → M D}
/-- name = [..] -/
theorem es_setLc (hc : X.calm = true) (hN : X.N.Nodup) (hy : X.N[i]? = some y) (hyl : X.env.scope.names.lookup y = some .local)
    (hsw : swapsWith (.ListComp elt [⟨tg, iter, ifs, 0⟩] scope pos) (some (.Name y py)) spos.line X.env = pure true) (hi : EvI X T EE tg iter fi) (ok : BlkOk X.N X.env.scope scope own)
    (hg : ∀ (s : Shared) (H : Hp) (C : Addr) (cl : List (Str × Addr)) (fp : List Addr), EvG (X.blk s H scope (compEnvC scope cl C X.env) fp) tg p) (ht : ∀ (s : Shared) (H : Hp) (C : Addr) (cl : List (Str × Addr)) (fp : List Addr), EvTs (X.blk s H scope (compEnvC scope cl C X.env) fp) T XX0 ifs ft)
    (he : ∀ (s : Shared) (H : Hp) (C : Addr) (cl : List (Str × Addr)) (fp : List Addr), EvE (X.blk s H scope (compEnvC scope cl C X.env) fp) T XX0 elt fe) (hsl : ∀ i ∈ p.slots, i ∈ own.map (·.2) := by decide) (hs : ∀ x, foldedSetIterable iter X.env x = pure x := by intro _; rfl) :
    EvS X T EE (.Assign [.Name y py] (.ListComp elt [⟨tg, iter, ifs, 0⟩] scope pos) spos) (bindS (fun ρ => M.bind (M.bind (fi ρ) fun items => compD p ft fe (wipeD ρ (own.map (·.2))) items) fun l => kon (.lst l)) fun d ρ S => .nx (ρ.set i (some d)) S) :=
  ⟨(ps_setLc hc hN hy hyl hsw hi.pi ok (fun s H C cl fp => (hg s H C cl fp).pg) (fun s H C cl fp => (ht s H C cl fp).pts) (fun s H C cl fp => (he s H C cl fp).pe) hs).dimp fun Dn σ H h => lc_ok hsl (frz_read (set_read h))⟩
theorem es_setLcC (hc : X.calm = true) (hN : X.N.Nodup) (hy : X.N[i]? = some y) (hyl : X.env.scope.names.lookup y = some .local)
    (hsw : swapsWith (.ListComp elt [⟨tg, iter, ifs, 0⟩] scope pos) (some (.Name y py)) spos.line X.env = pure true) (hi : EvI X T EE tg iter fi) (ok : BlkOk X.N X.env.scope scope own)
    (hg : ∀ (s : Shared) (H : Hp) (C : Addr) (cl : List (Str × Addr)) (fp : List Addr), EvG (X.blk s H scope (compEnvC scope cl C X.env) fp) tg p) (ht : ∀ (s : Shared) (H : Hp) (C : Addr) (cl : List (Str × Addr)) (fp : List Addr), EvTs (X.blk s H scope (compEnvC scope cl C X.env) fp) T XX0 ifs ft)
    (he : ∀ (s : Shared) (H : Hp) (C : Addr) (cl : List (Str × Addr)) (fp : List Addr), EvE (X.blk s H scope (compEnvC scope cl C X.env) fp) T XX0 elt fe) (hsl : ∀ i ∈ p.slots, i ∈ own.map (·.2) := by decide) (hs : ∀ x, foldedSetIterable iter X.env x = pure x := by intro _; rfl) :
    EvS X T EE (.Assign [.Name y py] (.ListComp elt [⟨tg, iter, ifs, 0⟩] scope pos) spos) (bindS (fun ρ => M.bind (M.bind (fi ρ) fun items => compD p ft fe (wipeD ρ (own.map (·.2))) items) newC) fun d ρ S => .nx (ρ.set i (some d)) S) :=
  ⟨(ps_setLc hc hN hy hyl hsw hi.pi ok (fun s H C cl fp => (hg s H C cl fp).pg) (fun s H C cl fp => (ht s H C cl fp).pts) (fun s H C cl fp => (he s H C cl fp).pe) hs).dimp fun Dn σ H h => lc_ok hsl (cell_read (set_read h))⟩
end
end

/-! ### what a def promises -/
mutual
/-- cells from n0 on are read -/
def resv (n0 : Nat) (S : Cells) : D → Option D
  | .ref n => if n < n0 then some (.ref n) else match S[n]? with
    | some ⟨_, .lst l⟩ => some (.lst l)
    | _ => none
  | .lst l => match resvL n0 S l with
    | some l' => some (.lst l')
    | none => none
  | .tup l => match resvL n0 S l with
    | some l' => some (.tup l')
    | none => none
  | .obj c l => match resvL n0 S l with
    | some l' => some (.obj c l')
    | none => none
  | .non => some .non
  | .bl b => some (.bl b)
  | .int i => some (.int i)
  | .str x => some (.str x)
def resvL (n0 : Nat) (S : Cells) : List D → Option (List D)
  | [] => some []
  | d :: ds => match resv n0 S d, resvL n0 S ds with
    | some d', some ds' => some (d' :: ds')
    | _, _ => none
end
mutual
theorem resv_flat (n0 : Nat) (S : Cells) : ∀ d : D, d.flat = true → resv n0 S d = some d
  | .non, _ => rfl
  | .bl _, _ => rfl
  | .int _, _ => rfl
  | .str _, _ => rfl
  | .lst l, h => by
    rw [flat_lst] at h
    unfold resv
    rw [resvL_flat n0 S l h]
  | .tup l, h => by
    rw [flat_tup] at h
    unfold resv
    rw [resvL_flat n0 S l h]
  | .obj c l, h => by
    rw [flat_obj] at h
    unfold resv
    rw [resvL_flat n0 S l h]
  | .ref n, h => by simp at h
theorem resvL_flat (n0 : Nat) (S : Cells) : ∀ l : List D, flatL l = true → resvL n0 S l = some l
  | [], _ => rfl
  | d :: ds, h => by
    rw [flatL_cons, Bool.and_eq_true] at h
    unfold resvL
    rw [resv_flat n0 S d h.1, resvL_flat n0 S ds h.2]
end
mutual
theorem resvL_len (n0 : Nat) (S : Cells) : ∀ (ds es : List D), resvL n0 S ds = some es → es.length = ds.length
  | [], es, h => by
    unfold resvL at h
    cases h
    rfl
  | d :: ds, es, h => by
    unfold resvL at h
    cases h1 : resv n0 S d with
    | none => rw [h1] at h; cases h
    | some d' =>
      cases h2 : resvL n0 S ds with
      | none => rw [h1, h2] at h; cases h
      | some ds' =>
        rw [h1, h2] at h
        cases h
        simp [resvL_len n0 S ds ds' h2]
end
section
variable {K : PySem.W.Frag} {T : Tab} {γ hid : List Addr} {S : Cells} {H : Hp} {n0 : Nat}
mutual
theorem resv_ok (h : Hold K T γ hid S H) : ∀ (d d' : D) (v : V), Rp K T γ (out γ S hid H) d v → resv n0 S d = some d' → Rp K T (γ.take n0) (out (γ.take n0) (S.take n0) hid H) d' v
  | .non, _, _, r, e => by unfold resv at e; cases e; cases r; exact .non
  | .bl _, _, _, r, e => by unfold resv at e; cases e; cases r; exact .bl _
  | .int _, _, _, r, e => by unfold resv at e; cases e; cases r; exact .int _
  | .str _, _, _, r, e => by unfold resv at e; cases e; cases r with | str x z => exact .str _ z
  | .lst l, _, _, r, e => by
    unfold resv at e
    cases q : resvL n0 S l with
    | none => rw [q] at e; cases e
    | some l' =>
      rw [q] at e
      cases e
      cases r with
      | lst a z b => exact .lst (((h.cut n0).2 hid).seq a) (by rw [resvL_len n0 S l l' q]; exact z) (resvL_ok h l l' _ b q)
  | .tup l, _, _, r, e => by
    unfold resv at e
    cases q : resvL n0 S l with
    | none => rw [q] at e; cases e
    | some l' =>
      rw [q] at e
      cases e
      cases r with
      | tup a z b => exact .tup (same_seqT ((h.cut n0).2 hid) a) (by rw [resvL_len n0 S l l' q]; exact z) (resvL_ok h l l' _ b q)
  | .obj c l, _, _, r, e => by
    unfold resv at e
    cases q : resvL n0 S l with
    | none => rw [q] at e; cases e
    | some l' =>
      rw [q] at e
      cases e
      cases r with
      | obj a z b => exact .obj ((h.cut n0).2 hid _ _ a) z (resvL_ok h l l' _ b q)
  | .ref n, d', _, r, e => by
    unfold resv at e
    cases r with
    | ref a =>
      by_cases hn : n < n0
      · rw [if_pos hn] at e
        cases e
        exact .ref (by rw [List.getElem?_take, if_pos hn]; exact a)
      · rw [if_neg hn] at e
        split at e
        · rename_i q
          cases e
          obtain ⟨vs, h1, z, h2⟩ := h.list a q
          refine .lst (SqL.of (out_some.mpr ⟨fun z => h.hidG _ z (List.mem_of_getElem? a), ?_, h1⟩)) z (h2.nil_any ((h.cut n0).2 hid))
          refine live_no fun hm => ?_
          obtain ⟨m, hm⟩ := List.mem_iff_getElem?.mp hm
          obtain ⟨h3, h4⟩ := getElem?_take_some hm
          exact hn ((nd_ix h.nd a h3) ▸ h4)
        · cases e
theorem resvL_ok (h : Hold K T γ hid S H) : ∀ (ds ds' : List D) (vs : List V), RpL K T γ (out γ S hid H) ds vs → resvL n0 S ds = some ds' → RpL K T (γ.take n0) (out (γ.take n0) (S.take n0) hid H) ds' vs
  | [], _, _, r, e => by unfold resvL at e; cases e; cases r; exact .nil
  | d :: ds, es, _, r, e => by
    unfold resvL at e
    cases h1 : resv n0 S d with
    | none => rw [h1] at e; cases e
    | some d' =>
      cases h2 : resvL n0 S ds with
      | none => rw [h1, h2] at e; cases e
      | some ds' =>
        rw [h1, h2] at e
        cases e
        cases r with
        | cons r1 r2 => exact .cons (resv_ok h d d' _ r1 h1) (resvL_ok h ds ds' _ r2 h2)
end
/-- behind a def's body: its own cells are forgotten -/
theorem Ext.cut {γ γ1 hid : List Addr} {S S1 : Cells} {H H1 : Hp} (h0 : Hold K T γ hid S H) (h : Hold K T γ1 hid S1 H1) (e : Ext γ S H γ1 S1 H1) : γ1.take S.length = γ ∧ Ext γ S H (γ1.take S.length) (S1.take S.length) H1 := by
  have hg : γ1.take S.length = γ := by
    apply List.ext_getElem?
    intro n
    rw [List.getElem?_take]
    split
    · rename_i hn
      rw [← h0.len] at hn
      have := e.pre n _ (List.getElem?_eq_getElem hn)
      rw [this, List.getElem?_eq_getElem hn]
    · rename_i hn
      rw [List.getElem?_eq_none_iff.mpr (by rw [h0.len]; omega)]
  refine ⟨hg, ⟨fun n a z => by rw [hg]; exact z, e.same.trans ((h.cut S.length).2 [])⟩⟩
end
def retD (n0 : Nat) (S : Cells) : Option D → DL.R D
  | some d => .ok d (S.take n0)
  | none => .stuck
def exitD (n0 : Nat) : Out → DL.R D
  | .rt d S => retD n0 S (resv n0 S d)
  | .nx _ S => .ok .non (S.take n0)
  | .er x _ S => .err x (S.take n0)
  | _ => .stuck
/-- where a new list is handed back -/
def exitL (n0 : Nat) : Out → DL.R (List D)
  | .rt (.ref n) S => if n0 ≤ n then match S[n]? with
    | some ⟨true, .lst l⟩ => .ok l (S.take n0)
    | _ => .stuck else .stuck
  | .er x _ S => .err x (S.take n0)
  | _ => .stuck
def startD (N : Nat) (ds : List D) : En := ds.map some ++ List.replicate (N - ds.length) none
/-- a def by its body: N names -/
def bodyD (N : Nat) (B : SM) : List D → M D := fun ds S => exitD S.length (B (startD N ds) S)
def bodyL (N : Nat) (B : SM) : List D → M (List D) := fun ds S => exitL S.length (B (startD N ds) S)
theorem start_ok {K : PySem.W.Frag} {T : Tab} {γ : List Addr} {F : Hp} {N : List Str} {ds : List D} {vs : List V} (r : RpL K T γ F ds vs) : EnvR K T γ F (startD N.length ds) (L2.start N vs) := by
  have hl := r.length
  refine ⟨by simp [startD, L2.start, hl], fun i d h => ?_⟩
  unfold startD at h
  by_cases hi : i < ds.length
  · rw [List.getElem?_append_left (by simpa using hi), List.getElem?_map] at h
    cases q : ds[i]? with
    | none => rw [q] at h; cases h
    | some d' =>
      rw [q] at h
      cases h
      obtain ⟨v, h1, h2⟩ := r.get q
      refine ⟨v, ?_, h2⟩
      unfold L2.start
      rw [List.getElem?_append_left (by simp; omega), List.getElem?_map, h1]
      rfl
  · rw [List.getElem?_append_right (by simp; omega), List.getElem?_replicate] at h
    split at h <;> cases h
/-- the promise: no exception leaves -/
def spD (K : PySem.W.Frag) (T : Tab) (n : Nat) (g : List D → M D) : Sp := fun vs H Q _ => ∃ γ hid S ds, Hold K T γ hid S H ∧ RpL K T γ (out γ S hid H) ds vs ∧ ds.length = n ∧ ∃ d S', g ds S = .ok d S' ∧ okV K T γ hid S H d S' Q
def spL (K : PySem.W.Frag) (T : Tab) (n : Nat) (g : List D → M (List D)) : Sp := fun vs H Q _ => ∃ γ hid S ds, Hold K T γ hid S H ∧ RpL K T γ (out γ S hid H) ds vs ∧ ds.length = n ∧ ∃ d S', g ds S = .ok d S' ∧ okL K T γ hid S H d S' Q
section
variable {P : Program} {w : World} {K : PySem.W.Frag} {mg : Str → Option Value} {base : Heap} {T : Tab}
theorem fn_D {x qual : Str} {params : Arguments} {body : List Stmt} {scope : Scope} {dvs : List V} {kws : List (Str × V)} {f : Addr} {fd : FuncData} {N ps : List Str} {k : Nat} {B : SM} (F : FunD K x qual params body scope dvs kws f fd) (S : FnScope N ps scope)
    (hb : ∀ (cdv : Value) (A : Around) (outer : List Env) (s : Shared) (H : Hp) (E : XK), Room k (A.deeper (envOfC qual scope s.heap.objs.size f cdv)) → NoRepr (A.deeper (envOfC qual scope s.heap.objs.size f cdv)) →
      EvSs (cxOf CX0 P w K mg base N qual scope f cdv A outer s H E).nox T XX0 body B) : FnG P w K mg base (k + 1) f fd ps (spD K T ps.length (bodyD N.length B)) := by
  refine fng_ok F S (fun vs H Q E h => ?_) (fun cdv A outer s H vs Q E hr nr h => ?_)
  · obtain ⟨γ, hid, S, ds, h1, h2, h3, _⟩ := h
    rw [← h2.length, h3]
  · obtain ⟨γ, hid, S, ds, h1, h2, h3, d, S', e, q⟩ := h
    refine ⟨_, (hb cdv A outer s H E hr nr).ps, γ, hid, S, startD N.length ds, h1, start_ok h2, ?_⟩
    unfold bodyD at e
    cases eb : B (startD N.length ds) S with
    | nx ρ S1 =>
      rw [eb] at e
      cases e
      intro γ' H' σ' a1 a2 a3
      obtain ⟨c1, c2⟩ := Ext.cut h1 a1 a2
      exact q _ H' .non (a1.cut _).1 c2 .non
    | rt d1 S1 =>
      rw [eb] at e
      have e : retD S.length S1 (resv S.length S1 d1) = .ok d S' := e
      cases er : resv S.length S1 d1 with
      | none => rw [er] at e; cases e
      | some d2 =>
        rw [er] at e
        cases e
        intro γ' H' v a1 a2 a3
        obtain ⟨c1, c2⟩ := Ext.cut h1 a1 a2
        exact q _ H' v (a1.cut _).1 c2 (resv_ok a1 _ _ _ a3 er)
    | bk ρ S1 => rw [eb] at e; cases e
    | ct ρ S1 => rw [eb] at e; cases e
    | er x ρ S1 => rw [eb] at e; cases e
    | stuck => rw [eb] at e; cases e
theorem fn_L {x qual : Str} {params : Arguments} {body : List Stmt} {scope : Scope} {dvs : List V} {kws : List (Str × V)} {f : Addr} {fd : FuncData} {N ps : List Str} {k : Nat} {B : SM} (F : FunD K x qual params body scope dvs kws f fd) (S : FnScope N ps scope)
    (hb : ∀ (cdv : Value) (A : Around) (outer : List Env) (s : Shared) (H : Hp) (E : XK), Room k (A.deeper (envOfC qual scope s.heap.objs.size f cdv)) → NoRepr (A.deeper (envOfC qual scope s.heap.objs.size f cdv)) →
      EvSs (cxOf CX0 P w K mg base N qual scope f cdv A outer s H E).nox T XX0 body B) : FnG P w K mg base (k + 1) f fd ps (spL K T ps.length (bodyL N.length B)) := by
  refine fng_ok F S (fun vs H Q E h => ?_) (fun cdv A outer s H vs Q E hr nr h => ?_)
  · obtain ⟨γ, hid, S, ds, h1, h2, h3, _⟩ := h
    rw [← h2.length, h3]
  · obtain ⟨γ, hid, S, ds, h1, h2, h3, l, S', e, q⟩ := h
    refine ⟨_, (hb cdv A outer s H E hr nr).ps, γ, hid, S, startD N.length ds, h1, start_ok h2, ?_⟩
    unfold bodyL at e
    cases eb : B (startD N.length ds) S with
    | nx ρ S1 => rw [eb] at e; cases e
    | rt d1 S1 =>
      rw [eb] at e
      cases d1 with
      | ref n =>
        have e : (if S.length ≤ n then (match S1[n]? with
          | some ⟨true, .lst l⟩ => .ok l (S1.take S.length)
          | _ => .stuck : DL.R (List D)) else .stuck) = .ok l S' := e
        split at e
        · rename_i hn
          split at e
          · rename_i en
            cases e
            intro γ' H' v a1 a2 a3
            cases a3 with
            | ref ga =>
              rename_i a
              obtain ⟨vs1, g1, z, g2⟩ := a1.list ga en
              obtain ⟨c1, c2⟩ := Ext.cut h1 a1 a2
              have lv : liveAt γ' S1 a = true := liveAt_iff.mpr ⟨n, _, ga, en, rfl⟩
              have na : a ∉ γ'.take S.length := fun hm => by
                obtain ⟨m, hm⟩ := List.mem_iff_getElem?.mp hm
                obtain ⟨h3, h4⟩ := getElem?_take_some hm
                have := nd_ix a1.nd ga h3
                omega
              have smE : ∀ hd, Same (out γ' S1 hd H') (out (γ'.take S.length) (S1.take S.length) hd (era H' a)) := fun hd b o hb => by
                obtain ⟨b1, b2, b3⟩ := out_some.mp hb
                have ne : b ≠ a := fun z => by rw [z, lv] at b2; cases b2
                obtain ⟨b4, b5, b6⟩ := out_some.mp ((a1.cut S.length).2 hd b o hb)
                exact out_some.mpr ⟨b4, b5, by rw [era_ne ne]; exact b6⟩
              have hold : Hold K T (γ'.take S.length) hid (S1.take S.length) (era H' a) := by
                refine ⟨(a1.cut S.length).1.len, (a1.cut S.length).1.nd, fun m b c e1 e2 => ?_, fun b hb => ?_, (a1.cut S.length).1.hidG⟩
                · obtain ⟨o, ho, r⟩ := a1.cell m b c (getElem?_take_some e1).1 (getElem?_take_some e2).1
                  exact ⟨o, by rw [era_ne (fun z : b = a => na (by rw [← z]; exact List.mem_of_getElem? e1))]; exact ho, r.mono (smE hid)⟩
                · rw [era_ne (fun z : b = a => a1.hidG b hb (by rw [z]; exact List.mem_of_getElem? ga))]
                  exact a1.hidT b hb
              have q1 := q (γ'.take S.length) (era H' a) vs1 hold ⟨c2.pre, a2.same.trans (smE [])⟩ z (g2.nil_any (smE hid)) a era_same
              rw [era_upd g1] at q1
              exact q1
          · cases e
        · cases e
      | _ => cases e
    | bk ρ S1 => rw [eb] at e; cases e
    | ct ρ S1 => rw [eb] at e; cases e
    | er x ρ S1 => rw [eb] at e; cases e
    | stuck => rw [eb] at e; cases e
end
/-! ### calls -/
section
variable {X : Cx} {T : Tab} {EE : XX} {k : Nat} {f : Addr} {fd : FuncData} {ps : List Str} {x : Str} {p pos : Pos} {e : Expr} {es : List Expr} {fs : En → M (List D)} {n : Nat}
theorem call_read {K : PySem.W.Frag} {g : List D → M D} {σ : St} {H : Hp} {Q : VK} (hn : ∀ ds S, ds.length ≠ n → g ds S = .stuck) (h : dE K T EE (fun ρ => M.bind (fs ρ) fun ds => calmM (g ds)) σ H Q) : tCall (spD K T n g) [] E0 (dA K T EE fs) σ H Q := by
  refine (show dG K T EE (repA K T) fs σ H _ from ?_)
  obtain ⟨_, _, _, _, h1, h2, h3⟩ := bindD (rep := repA K T) h
  refine ⟨_, _, _, _, h1, h2, h3.imp fun vs H1 ⟨ds, γ1, hid, S1, ρ, q1, q3, q4, q5⟩ => ?_⟩
  rw [List.append_nil]
  cases eg : g ds S1 with
  | ok d S2 =>
    have q5 : resG K T EE (repE K T) γ1 hid S1 H1 ρ σ (calmM (g ds) S1) Q := q5
    rw [calm_of eg] at q5
    refine ⟨γ1, hid, S1, ds, q1, q4, ?_, d, S2, eg, q5⟩
    refine Decidable.byContradiction fun hne => ?_
    rw [hn ds S1 hne] at eg
    cases eg
  | err y S2 =>
    have q5 : resG K T EE (repE K T) γ1 hid S1 H1 ρ σ (calmM (g ds) S1) Q := q5
    unfold calmM at q5
    rw [eg] at q5
    exact q5.elim
  | stuck =>
    have q5 : resG K T EE (repE K T) γ1 hid S1 H1 ρ σ (calmM (g ds) S1) Q := q5
    unfold calmM at q5
    rw [eg] at q5
    exact q5.elim
theorem callL_read {K : PySem.W.Frag} {g : List D → M (List D)} {σ : St} {H : Hp} {Q : VK} (hn : ∀ ds S, ds.length ≠ n → g ds S = .stuck) (h : dL K T EE (fun ρ => M.bind (fs ρ) fun ds => calmM (g ds)) σ H Q) : tCall (spL K T n g) [] E0 (dA K T EE fs) σ H Q := by
  refine (show dG K T EE (repA K T) fs σ H _ from ?_)
  obtain ⟨_, _, _, _, h1, h2, h3⟩ := bindD (rep := repA K T) h
  refine ⟨_, _, _, _, h1, h2, h3.imp fun vs H1 ⟨ds, γ1, hid, S1, ρ, q1, q3, q4, q5⟩ => ?_⟩
  rw [List.append_nil]
  cases eg : g ds S1 with
  | ok d S2 =>
    have q5 : resG K T EE (repL K T) γ1 hid S1 H1 ρ σ (calmM (g ds) S1) (fun vs H' => ∀ p, H' p = none → Q (.ref p) (upd H' p (.lst vs))) := q5
    rw [calm_of eg] at q5
    refine ⟨γ1, hid, S1, ds, q1, q4, ?_, d, S2, eg, fun γ' H' vs a1 a2 z a3 => q5 γ' H' vs a1 a2 ⟨z, a3⟩⟩
    refine Decidable.byContradiction fun hne => ?_
    rw [hn ds S1 hne] at eg
    cases eg
  | err y S2 =>
    have q5 : resG K T EE (repL K T) γ1 hid S1 H1 ρ σ (calmM (g ds) S1) (fun vs H' => ∀ p, H' p = none → Q (.ref p) (upd H' p (.lst vs))) := q5
    unfold calmM at q5
    rw [eg] at q5
    exact q5.elim
  | stuck =>
    have q5 : resG K T EE (repL K T) γ1 hid S1 H1 ρ σ (calmM (g ds) S1) (fun vs H' => ∀ p, H' p = none → Q (.ref p) (upd H' p (.lst vs))) := q5
    unfold calmM at q5
    rw [eg] at q5
    exact q5.elim
/-- with so many arguments -/
def arity {α : Type} (n : Nat) (g : List D → M α) : List D → M α := fun ds S => if ds.length = n then g ds S else .stuck
theorem spD_arity {K : PySem.W.Frag} {g : List D → M D} {vs : List V} {H : Hp} {Q : VK} {E : XK} (h : spD K T n (arity n g) vs H Q E) : spD K T n g vs H Q E := by
  obtain ⟨γ, hid, S, ds, h1, h2, h3, d, S', e, q⟩ := h
  unfold arity at e
  rw [if_pos h3] at e
  exact ⟨γ, hid, S, ds, h1, h2, h3, d, S', e, q⟩
theorem spL_arity {K : PySem.W.Frag} {g : List D → M (List D)} {vs : List V} {H : Hp} {Q : VK} {E : XK} (h : spL K T n (arity n g) vs H Q E) : spL K T n g vs H Q E := by
  obtain ⟨γ, hid, S, ds, h1, h2, h3, d, S', e, q⟩ := h
  unfold arity at e
  rw [if_pos h3] at e
  exact ⟨γ, hid, S, ds, h1, h2, h3, d, S', e, q⟩
/-- f(..), f a def of the text -/
theorem ev_call {g : List D → M D} (F : FnG X.prog X.w X.K X.mg X.base k f fd ps (spD X.K T n g)) (hr : Room k X.A) (nr : NoRepr X.A) (hg : Gl X x) (hm : X.mg x = some (.ref f)) (hk : PySem.W.keepIn X.K (.ref f) = true) (hb : Binds X.K fd ps [])
    (ha : EvA X T EE (e :: es) fs) (hdb : (x == ("__debug__" : Str)) = false := by decide) (he : starEach (e :: es) X.env = (false, eval e X.env) :: starEach es X.env := by rfl) (hpl : (backTo pos (starEach es X.env)).any (·.1) = false := by rfl) :
    EvE X T EE (.Call (.Name x p) (e :: es) [] pos) (fun ρ => M.bind (fs ρ) fun ds => calmM (arity n g ds)) :=
  ⟨(pg_call (E := E0) (F.imp fun vs H Q E h => spD_arity h) hr nr hg hm hk hb ha.pa hdb he hpl).dimp fun σ H Q h => call_read (fun ds S hne => by unfold arity; rw [if_neg hne]) h⟩
theorem evL_call {g : List D → M (List D)} (F : FnG X.prog X.w X.K X.mg X.base k f fd ps (spL X.K T n g)) (hr : Room k X.A) (nr : NoRepr X.A) (hg : Gl X x) (hm : X.mg x = some (.ref f)) (hk : PySem.W.keepIn X.K (.ref f) = true) (hb : Binds X.K fd ps [])
    (ha : EvA X T EE (e :: es) fs) (hdb : (x == ("__debug__" : Str)) = false := by decide) (he : starEach (e :: es) X.env = (false, eval e X.env) :: starEach es X.env := by rfl) (hpl : (backTo pos (starEach es X.env)).any (·.1) = false := by rfl) :
    EvL X T EE (.Call (.Name x p) (e :: es) [] pos) (fun ρ => M.bind (fs ρ) fun ds => calmM (arity n g ds)) :=
  ⟨(pg_call (E := E0) (F.imp fun vs H Q E h => spL_arity h) hr nr hg hm hk hb ha.pa hdb he hpl).dimp fun σ H Q h => callL_read (fun ds S hne => by unfold arity; rw [if_neg hne]) h⟩
end
end DL
end
section
set_option maxHeartbeats 2000000
/-! DLe: operators, subscripts, built-ins and methods over data. -/
namespace DL
open PySem PySem.Spec L2
open PyProof.Rows hiding St

/-! ### looking at data -/
def seqL (S : Cells) : D → Option (List D)
  | .lst l => some l
  | .ref n => match S[n]? with
    | some ⟨_, .lst l⟩ => some l
    | _ => none
  | _ => none
def seqT : D → Option (List D)
  | .tup l => some l
  | _ => none
section
variable {K : PySem.W.Frag} {T : Tab} {γ hid : List Addr} {S : Cells} {H : Hp}
theorem seqL_ok (h : Hold K T γ hid S H) {d : D} {v : V} {l : List D} (r : Rp K T γ (out γ S hid H) d v) (e : seqL S d = some l) : ∃ a vs, v = .ref a ∧ SqL K H a vs ∧ l.length ≤ sizeLine ∧ RpL K T γ (out γ S hid H) l vs := by
  cases r with
  | lst a z b =>
    cases e
    exact ⟨_, _, rfl, (out_sub _ _ _ _).seq a, z, b⟩
  | ref a =>
    rename_i n _
    have e : (match S[n]? with
      | some ⟨_, .lst l⟩ => some l
      | _ => none) = some l := e
    split at e
    · rename_i q
      cases e
      obtain ⟨vs, h1, z, h2⟩ := h.list a q
      exact ⟨_, vs, rfl, SqL.of h1, z, h2.nil_any (Same.refl _)⟩
    · cases e
  | _ => cases e
theorem seqT_ok {d : D} {v : V} {l : List D} (r : Rp K T γ (out γ S hid H) d v) (e : seqT d = some l) : ∃ a vs, v = .ref a ∧ SqT K H a vs ∧ l.length ≤ sizeLine ∧ RpL K T γ (out γ S hid H) l vs := by
  cases r with
  | tup a z b =>
    cases e
    exact ⟨_, _, rfl, same_seqT (out_sub _ _ _ _) a, z, b⟩
  | _ => cases e
theorem okV.same {d : D} {v : V} {Q : VK} (q : okV K T γ hid S H d S Q) (h : Hold K T γ hid S H) (r : Rp K T γ (out γ S hid H) d v) : Q v H := q γ H v h (Ext.refl _ _ _) r
/-- a new tuple, a new list -/
theorem okV.tup {l : List D} {vs : List V} {Q : VK} (q : okV K T γ hid S H (.tup l) S Q) (h : Hold K T γ hid S H) (z : l.length ≤ sizeLine) (r : RpL K T γ (out γ S hid H) l vs) : ∀ p, H p = none → Q (.ref p) (upd H p (.tup vs)) := fun p np => by
  obtain ⟨a1, a2, a3⟩ := h.lay np (.tup vs)
  exact q γ _ _ a1 a2 (.tup (SqT.of (a3 hid (h.fresh np).2)) z (a2.rpl r))
theorem okV.lst {l : List D} {vs : List V} {Q : VK} (q : okV K T γ hid S H (.lst l) S Q) (h : Hold K T γ hid S H) (z : l.length ≤ sizeLine) (r : RpL K T γ (out γ S hid H) l vs) : ∀ p, H p = none → Q (.ref p) (upd H p (.lst vs)) := fun p np => by
  obtain ⟨a1, a2, a3⟩ := h.lay np (.lst vs)
  exact q γ _ _ a1 a2 (.lst (SqL.of (a3 hid (h.fresh np).2)) z (a2.rpl r))
theorem okL.lst {l : List D} {vs : List V} {Q : VK} (q : okL K T γ hid S H l S Q) (h : Hold K T γ hid S H) (z : l.length ≤ sizeLine) (r : RpL K T γ (out γ S hid H) l vs) : ∀ p, H p = none → Q (.ref p) (upd H p (.lst vs)) := fun p np =>
  q γ H vs h (Ext.refl _ _ _) z r p np
end

/-! ### + - * // % ** -/
section
variable {X : Cx} {T : Tab}
/-- list + list, wherever they stand -/
theorem op_catS : OpR X (binaryOp .Add) (fun x y H Q => ∃ l b xs zs, x = .ref l ∧ y = .ref b ∧ SqL X.K H l xs ∧ SqL X.K H b zs ∧ xs.length + zs.length ≤ sizeLine ∧ ∀ p, H p = none → Q (.ref p) (upd H p (.lst (xs ++ zs)))) := by
  intro pins s σ H x y v u Q I rx ry h
  obtain ⟨l, b, xs, zs, rfl, rfl, h1, h2, hz, q⟩ := h
  cases rx
  cases ry
  obtain ⟨i1, r1, ⟨⟨c1, d1, t1, s1⟩, n1, e1, k1, _, m1⟩, _⟩ := I.list h1
  obtain ⟨i2, r2, ⟨⟨c2, d2, t2, s2⟩, n2, e2, k2, _, m2⟩, _⟩ := I.list h2
  simp only at k1 m1 k2 m2
  subst k1 m1 k2 m2
  have hl1 := r1.length
  have hl2 := r2.length
  refine concat_meets ⟨_, e1, rfl⟩ ⟨_, e2, rfl⟩ noFill_list_add seq_list_add PySem.F.slot_list_add PySem.F.entry_list_add (PySem.F.args_list_add_2 _ _) (list_addW l b i1.toArray i2.toArray n1 n2 d1 d2 s1 s2 (by rw [List.size_toArray, List.size_toArray]; omega)) ⟨e1, e2, ?_⟩
  have ea : i1.toArray ++ i2.toArray = (i1 ++ i2).toArray := by simp
  rw [ea]
  exact ⟨.ref _, _, I.lnew (t' := s.toks) (r1.append r2) (by rw [List.length_append]; omega), rfl, q _ I.fresh⟩
def catL (d1 d2 : D) (S : Cells) : Option (List D) := match seqL S d1, seqL S d2 with
  | some a, some b => if a.length + b.length ≤ sizeLine then some (a ++ b) else none
  | _, _ => none
theorem catL_some {d1 d2 : D} {S : Cells} {l : List D} (e : catL d1 d2 S = some l) : ∃ a b, seqL S d1 = some a ∧ seqL S d2 = some b ∧ a.length + b.length ≤ sizeLine ∧ l = a ++ b := by
  unfold catL at e
  split at e
  · rename_i a b h1 h2
    split at e
    · cases e
      exact ⟨a, b, h1, h2, by assumption, rfl⟩
    · cases e
  · cases e
theorem op_catL : OpR X (binaryOp .Add) (rOL X.K T catL) := op_catS.dimp fun x y H Q h => by
  obtain ⟨γ, hid, S, d1, d2, l, hold, r1, r2, e, q⟩ := h
  obtain ⟨a, b, h1, h2, z, rfl⟩ := catL_some e
  obtain ⟨p1, vs1, rfl, s1, z1, g1⟩ := seqL_ok hold r1 h1
  obtain ⟨p2, vs2, rfl, s2, z2, g2⟩ := seqL_ok hold r2 h2
  exact ⟨_, _, _, _, rfl, rfl, s1, s2, by rw [← g1.length, ← g2.length]; exact z, q.lst hold (by rw [List.length_append]; exact z) (g1.append g2)⟩
def dAdd (d1 d2 : D) (S : Cells) : Option D := match d1, d2 with
  | .int i, .int j => some (.int (i + j))
  | .str x, .str y => if x.length + y.length ≤ sizeLine then some (.str (x ++ y)) else none
  | .tup a, .tup b => if a.length + b.length ≤ sizeLine then some (.tup (a ++ b)) else none
  | d1, d2 => (catL d1 d2 S).map .lst
theorem str_len_append (x y : Str) : (x ++ y).length = x.length + y.length := by
  show (x.cps ++ y.cps).size = x.cps.size + y.cps.size
  rw [Array.size_append]
theorem op_dAdd : OpR X (binaryOp .Add) (rO X.K T dAdd) := by
  intro pins s σ H x y v u Q I rx ry h
  obtain ⟨γ, hid, S, d1, d2, d, hold, r1, r2, e, q⟩ := h
  have cat : (catL d1 d2 S).map .lst = some d → wpAny (model X.prog X.w) X.A (binaryOp .Add v u) (EP X pins σ Q) X.xe s := fun e => by
    cases ec : catL d1 d2 S with
    | none => rw [ec] at e; cases e
    | some l =>
      rw [ec] at e
      cases e
      refine op_catS pins s σ H x y v u Q I rx ry ?_
      obtain ⟨a, b, h1, h2, z, rfl⟩ := catL_some ec
      obtain ⟨p1, vs1, rfl, s1, z1, g1⟩ := seqL_ok hold r1 h1
      obtain ⟨p2, vs2, rfl, s2, z2, g2⟩ := seqL_ok hold r2 h2
      exact ⟨_, _, _, _, rfl, rfl, s1, s2, by rw [← g1.length, ← g2.length]; exact z, q.lst hold (by rw [List.length_append]; exact z) (g1.append g2)⟩
  unfold dAdd at e
  split at e
  · cases r1
    cases r2
    cases e
    exact op_add pins s σ H _ _ v u Q I rx ry ⟨_, _, rfl, rfl, q.same hold (.int _)⟩
  · cases r1
    cases r2
    split at e
    · cases e
      rename_i z
      exact op_add_str pins s σ H _ _ v u Q I rx ry ⟨_, _, rfl, rfl, z, q.same hold (.str _ (by rw [str_len_append]; exact z))⟩
    · cases e
  · split at e
    · cases e
      rename_i a b z
      obtain ⟨p1, vs1, rfl, s1, z1, g1⟩ := seqT_ok r1 rfl
      obtain ⟨p2, vs2, rfl, s2, z2, g2⟩ := seqT_ok r2 rfl
      refine op_catA pins s σ H _ _ v u Q I rx ry ⟨_, _, _, _, rfl, rfl, s1, s2, by rw [← g1.length, ← g2.length]; exact z, fun e0 => ?_, fun _ e0 => ?_, fun _ _ => q.tup hold (by rw [List.length_append]; exact z) (g1.append g2)⟩
      · subst e0
        cases g1
        exact q.same hold r2
      · subst e0
        cases g2
        rw [List.append_nil] at q
        exact q.same hold r1
    · cases e
  · exact cat e
def dSub (d1 d2 : D) (_ : Cells) : Option D := match d1, d2 with
  | .int i, .int j => some (.int (i - j))
  | _, _ => none
theorem op_dSub : OpR X (binaryOp .Sub) (rO X.K T dSub) := by
  intro pins s σ H x y v u Q I rx ry h
  obtain ⟨γ, hid, S, d1, d2, d, hold, r1, r2, e, q⟩ := h
  unfold dSub at e
  split at e
  · cases r1
    cases r2
    cases e
    exact op_sub pins s σ H _ _ v u Q I rx ry ⟨_, _, rfl, rfl, q.same hold (.int _)⟩
  · cases e
def okMul (i j : Int) : Bool := decide (i.natAbs.log2 + j.natAbs.log2 < 1000000)
def dMul (d1 d2 : D) (_ : Cells) : Option D := match d1, d2 with
  | .int i, .int j => if okMul i j = true then some (.int (i * j)) else none
  | _, _ => none
theorem op_dMul : OpR X (binaryOp .Mult) (rO X.K T dMul) := by
  intro pins s σ H x y v u Q I rx ry h
  obtain ⟨γ, hid, S, d1, d2, d, hold, r1, r2, e, q⟩ := h
  unfold dMul at e
  split at e
  · rename_i i j
    cases r1
    cases r2
    split at e
    · cases e
      rename_i z
      have z' : i.natAbs.log2 + j.natAbs.log2 < 1000000 := of_decide_eq_true z
      exact op_mulW pins s σ H _ _ v u Q I rx ry ⟨_, _, rfl, rfl, z', q.same hold (.int _)⟩
    · cases e
  · cases e
def dDiv (d1 d2 : D) (_ : Cells) : Option D := match d1, d2 with
  | .int i, .int j => if 0 < j ∧ j.natAbs.log2 < 9000 then some (.int (i / j)) else none
  | _, _ => none
theorem op_dDiv : OpR X (binaryOp .FloorDiv) (rO X.K T dDiv) := by
  intro pins s σ H x y v u Q I rx ry h
  obtain ⟨γ, hid, S, d1, d2, d, hold, r1, r2, e, q⟩ := h
  unfold dDiv at e
  split at e
  · cases r1
    cases r2
    split at e
    · cases e
      rename_i z
      exact op_fdivW pins s σ H _ _ v u Q I rx ry ⟨_, _, rfl, rfl, z, q.same hold (.int _)⟩
    · cases e
  · cases e
def dMod (d1 d2 : D) (_ : Cells) : Option D := match d1, d2 with
  | .int i, .int j => if 0 < j then some (.int (i % j)) else none
  | _, _ => none
theorem op_dMod : OpR X (binaryOp .Mod) (rO X.K T dMod) := by
  intro pins s σ H x y v u Q I rx ry h
  obtain ⟨γ, hid, S, d1, d2, d, hold, r1, r2, e, q⟩ := h
  unfold dMod at e
  split at e
  · cases r1
    cases r2
    split at e
    · cases e
      rename_i z
      exact op_mod pins s σ H _ _ v u Q I rx ry ⟨_, _, rfl, rfl, z, q.same hold (.int _)⟩
    · cases e
  · cases e
def dPow (d1 d2 : D) (_ : Cells) : Option D := match d1, d2 with
  | .int i, .int j => if 0 ≤ j ∧ (Builtin.Int.intBits i : Int) * j ≤ 2 ^ 27 then some (.int (i ^ j.toNat)) else none
  | _, _ => none
theorem op_dPow : OpR X (binaryOp .Pow) (rO X.K T dPow) := by
  intro pins s σ H x y v u Q I rx ry h
  obtain ⟨γ, hid, S, d1, d2, d, hold, r1, r2, e, q⟩ := h
  unfold dPow at e
  split at e
  · cases r1
    cases r2
    split at e
    · cases e
      rename_i z
      obtain ⟨t, rfl⟩ := rx
      obtain ⟨t', rfl⟩ := ry
      exact PyProof.Rows.pow_int z.1 z.2 ⟨.int _, H, I.tok _, ⟨_, rfl⟩, q.same hold (.int _)⟩
    · cases e
  · cases e
def dNeg (d : D) (_ : Cells) : Option D := match d with
  | .int i => some (.int (-i))
  | _ => none
theorem un_dNeg : UnR X (unaryOp .USub) (rU X.K T dNeg) := by
  intro pins s σ H x v Q I rx h
  obtain ⟨γ, hid, S, d1, d, hold, r1, e, q⟩ := h
  unfold dNeg at e
  split at e
  · cases r1
    cases e
    exact un_neg pins s σ H _ v Q I rx ⟨_, rfl, q.same hold (.int _)⟩
  · cases e

/-! ### comparisons -/
mutual
def toPy : D → Option PyData
  | .non => some .none
  | .bl b => some (.bool b)
  | .int i => some (.int i)
  | .str x => some (.str x)
  | .lst l => match toPyL l with
    | some m => some (.list m)
    | none => none
  | .tup l => match toPyL l with
    | some m => some (.tuple m)
    | none => none
  | _ => none
def toPyL : List D → Option (List PyData)
  | [] => some []
  | d :: ds => match toPy d, toPyL ds with
    | some e, some es => some (e :: es)
    | _, _ => none
end
mutual
theorem toPy_ok {K : PySem.W.Frag} {γ : List Addr} {F H : Hp} (hs : Same F H) : ∀ (d : D) (v : V) (p : PyData), Rp K T γ F d v → toPy d = some p → Dp K H v p
  | .non, _, _, r, e => by unfold toPy at e; cases e; cases r; exact .non
  | .bl _, _, _, r, e => by unfold toPy at e; cases e; cases r; exact .bl _
  | .int _, _, _, r, e => by unfold toPy at e; cases e; cases r; exact .int _
  | .str _, _, _, r, e => by unfold toPy at e; cases e; cases r; exact .str _
  | .lst l, _, _, r, e => by
    unfold toPy at e
    cases q : toPyL l with
    | none => rw [q] at e; cases e
    | some m =>
      rw [q] at e
      cases e
      cases r with
      | lst a z b => exact .lst (hs.seq a) (toPyL_ok hs l _ _ b q)
  | .tup l, _, _, r, e => by
    unfold toPy at e
    cases q : toPyL l with
    | none => rw [q] at e; cases e
    | some m =>
      rw [q] at e
      cases e
      cases r with
      | tup a z b => exact .tup (same_seqT hs a) (toPyL_ok hs l _ _ b q)
  | .ref _, _, _, _, e => by unfold toPy at e; cases e
  | .obj _ _, _, _, _, e => by unfold toPy at e; cases e
theorem toPyL_ok {K : PySem.W.Frag} {γ : List Addr} {F H : Hp} (hs : Same F H) : ∀ (ds : List D) (vs : List V) (ps : List PyData), RpL K T γ F ds vs → toPyL ds = some ps → DpAll K H vs ps
  | [], _, _, r, e => by unfold toPyL at e; cases e; cases r; exact .nil
  | d :: ds, _, _, r, e => by
    unfold toPyL at e
    cases h1 : toPy d with
    | none => rw [h1] at e; cases e
    | some p =>
      cases h2 : toPyL ds with
      | none => rw [h1, h2] at e; cases e
      | some ps =>
        rw [h1, h2] at e
        cases e
        cases r with
        | cons a b => exact .cons (toPy_ok hs d _ _ a h1) (toPyL_ok hs ds _ _ b h2)
end
/-- data as a whole, cells read -/
def vw (S : Cells) (d : D) : Option PyData := (resv 0 S d).bind toPy
theorem vw_ok {K : PySem.W.Frag} {γ hid : List Addr} {S : Cells} {H : Hp} {d : D} {v : V} {p : PyData} (h : Hold K T γ hid S H) (r : Rp K T γ (out γ S hid H) d v) (e : vw S d = some p) : Dp K H v p := by
  unfold vw at e
  cases q : resv 0 S d with
  | none => rw [q] at e; cases e
  | some d' =>
    rw [q] at e
    exact toPy_ok (out_sub _ _ _ _) d' v p (resv_ok h d d' v r q) e
def eqP (d1 d2 : D) (S : Cells) : Option Bool := match vw S d1, vw S d2 with
  | some p, some q => if SeqAt.shaped p = true ∧ SeqAt.shaped q = true then some (PyData.eqv p q) else none
  | _, _ => none
theorem eqP_some {d1 d2 : D} {S : Cells} {b : Bool} (e : eqP d1 d2 S = some b) : ∃ p q, vw S d1 = some p ∧ vw S d2 = some q ∧ SeqAt.shaped p = true ∧ SeqAt.shaped q = true ∧ b = PyData.eqv p q := by
  unfold eqP at e
  split at e
  · rename_i p q h1 h2
    split at e
    · rename_i z
      cases e
      exact ⟨p, q, h1, h2, z.1, z.2, rfl⟩
    · cases e
  · cases e
def dEq (d1 d2 : D) (S : Cells) : Option D := match d1, d2 with
  | .str x, .str y => some (.bl (decide (x = y)))
  | d1, d2 => (eqP d1 d2 S).map .bl
def dNe (d1 d2 : D) (S : Cells) : Option D := match d1, d2 with
  | .str x, .str y => some (.bl (!decide (x = y)))
  | d1, d2 => (eqP d1 d2 S).map fun b => .bl (!b)
theorem decS {x y : Str} : decide (V.str x = V.str y) = decide (x = y) := by
  by_cases h : x = y
  · rw [decide_eq_true h, decide_eq_true (by rw [h])]
  · rw [decide_eq_false h, decide_eq_false (fun z => h (V.str.inj z))]
theorem op_dEq (hu : X.A.units + 64 < cLine) : OpR X (compareOp .Eq) (rO X.K T dEq) := by
  intro pins s σ H x y v u Q I rx ry h
  obtain ⟨γ, hid, S, d1, d2, d, hold, r1, r2, e, q⟩ := h
  unfold dEq at e
  split at e
  · cases r1
    cases r2
    cases e
    exact op_eq pins s σ H _ _ v u Q I rx ry ⟨rfl, by rw [decS]; exact q.same hold (.bl _)⟩
  · refine op_eqD hu pins s σ H x y v u Q I rx ry ?_
    cases eb : eqP d1 d2 S with
    | none => rw [eb] at e; cases e
    | some b =>
      rw [eb] at e
      cases e
      obtain ⟨p1, p2, h1, h2, h3, h4, rfl⟩ := eqP_some eb
      exact ⟨p1, p2, vw_ok hold r1 h1, vw_ok hold r2 h2, h3, h4, q.same hold (.bl _)⟩
theorem op_dNe (hu : X.A.units + 64 < cLine) : OpR X (compareOp .NotEq) (rO X.K T dNe) := by
  intro pins s σ H x y v u Q I rx ry h
  obtain ⟨γ, hid, S, d1, d2, d, hold, r1, r2, e, q⟩ := h
  unfold dNe at e
  split at e
  · cases r1
    cases r2
    cases e
    exact op_ne pins s σ H _ _ v u Q I rx ry ⟨rfl, by rw [decS]; exact q.same hold (.bl _)⟩
  · refine op_neD hu pins s σ H x y v u Q I rx ry ?_
    cases eb : eqP d1 d2 S with
    | none => rw [eb] at e; cases e
    | some b =>
      rw [eb] at e
      cases e
      obtain ⟨p1, p2, h1, h2, h3, h4, rfl⟩ := eqP_some eb
      exact ⟨p1, p2, vw_ok hold r1 h1, vw_ok hold r2 h2, h3, h4, q.same hold (.bl _)⟩
def cmpI (p : Int → Int → Bool) (d1 d2 : D) (_ : Cells) : Option D := match d1, d2 with
  | .int i, .int j => some (.bl (p i j))
  | _, _ => none
theorem op_cmpI {o : CmpOp} {p : Int → Int → Bool} (ho : OpR X (compareOp o) (rI0 fun i j => .bl (p i j))) : OpR X (compareOp o) (rO X.K T (cmpI p)) := ho.dimp fun x y H Q h => by
  obtain ⟨γ, hid, S, d1, d2, d, hold, r1, r2, e, q⟩ := h
  unfold cmpI at e
  split at e
  · cases r1
    cases r2
    cases e
    exact ⟨_, _, rfl, rfl, q.same hold (.bl _)⟩
  · cases e
abbrev dLt := cmpI fun i j => decide (i < j)
abbrev dLe := cmpI fun i j => decide (i ≤ j)
abbrev dGt := cmpI fun i j => decide (j < i)
abbrev dGe := cmpI fun i j => decide (j ≤ i)
theorem op_dLt : OpR X (compareOp .Lt) (rO X.K T dLt) := op_cmpI op_lt
theorem op_dLe : OpR X (compareOp .LtE) (rO X.K T dLe) := op_cmpI op_le
theorem op_dGt : OpR X (compareOp .Gt) (rO X.K T dGt) := op_cmpI op_gt
theorem op_dGe : OpR X (compareOp .GtE) (rO X.K T dGe) := op_cmpI op_ge
def isNon : D → Bool
  | .non => true
  | _ => false
def dIs (d1 d2 : D) (_ : Cells) : Option D := match d2 with
  | .non => some (.bl (isNon d1))
  | _ => none
def dIsNot (d1 d2 : D) (_ : Cells) : Option D := match d2 with
  | .non => some (.bl (!isNon d1))
  | _ => none
theorem isNon_rep {K : PySem.W.Frag} {γ : List Addr} {F : Hp} {d : D} {v : V} (r : Rp K T γ F d v) : decide (v = .non) = isNon d := by
  cases r <;> simp [isNon]
theorem op_dIs : OpR X (compareOp .Is) (rO X.K T dIs) := op_isN.dimp fun x y H Q h => by
  obtain ⟨γ, hid, S, d1, d2, d, hold, r1, r2, e, q⟩ := h
  unfold dIs at e
  split at e
  · cases r2
    cases e
    exact ⟨rfl, by rw [isNon_rep r1]; exact q.same hold (.bl _)⟩
  · cases e
theorem op_dIsNot : OpR X (compareOp .IsNot) (rO X.K T dIsNot) := op_notN.dimp fun x y H Q h => by
  obtain ⟨γ, hid, S, d1, d2, d, hold, r1, r2, e, q⟩ := h
  unfold dIsNot at e
  split at e
  · cases r2
    cases e
    exact ⟨rfl, by rw [isNon_rep r1]; exact q.same hold (.bl _)⟩
  · cases e
end

/-! ### subscripts -/
section
variable {X : Cx} {T : Tab} {EE : XX} {a b e : Expr} {fa fb f : En → M D} {pos : Pos}
def ixD (d i : D) (S : Cells) : Option D := match i with
  | .int k => match d with
    | .str x => (atI x.cps.toList k).map fun c => .str ⟨#[c]⟩
    | .tup l => atI l k
    | d => (seqL S d).bind fun l => atI l k
  | _ => none
theorem atI_rep {K : PySem.W.Frag} {γ : List Addr} {F : Hp} {l : List D} {vs : List V} {k : Int} {d : D} (r : RpL K T γ F l vs) (e : atI l k = some d) : ∃ v, atI vs k = some v ∧ Rp K T γ F d v := by
  unfold atI at e ⊢
  rw [← r.length]
  cases q : ixN l.length k with
  | none => rw [q] at e; cases e
  | some j =>
    rw [q] at e
    exact r.get e
theorem ix_dIx : IxR X (rO X.K T ixD) := by
  intro value slice pins s σ H x y v u Q I rx ry h hp
  obtain ⟨γ, hid, S, d1, d2, d, hold, r1, r2, e, q⟩ := h
  unfold ixD at e
  split at e
  · rename_i k
    cases r2
    split at e
    · rename_i z
      cases r1 with
      | str _ hz =>
        cases ea : atI z.cps.toList k with
        | none => rw [ea] at e; cases e
        | some c =>
          rw [ea] at e
          cases e
          exact ix_seq value slice pins s σ H _ _ v u Q I rx ry (.inr (.inr ⟨_, _, c, rfl, rfl, hz, ea, q.same hold (.str _ one_sign)⟩)) hp
    · obtain ⟨p1, vs1, rfl, s1, z1, g1⟩ := seqT_ok r1 rfl
      obtain ⟨v1, e1, r3⟩ := atI_rep g1 e
      exact ix_seq value slice pins s σ H _ _ v u Q I rx ry (.inr (.inl ⟨_, _, _, v1, rfl, rfl, s1, e1, q.same hold r3⟩)) hp
    · cases el : seqL S d1 with
      | none => rw [el] at e; cases e
      | some l =>
        rw [el] at e
        obtain ⟨p1, vs1, rfl, s1, z1, g1⟩ := seqL_ok hold r1 el
        obtain ⟨v1, e1, r3⟩ := atI_rep g1 e
        exact ix_seq value slice pins s σ H _ _ v u Q I rx ry (.inl ⟨_, _, _, v1, rfl, rfl, s1, e1, q.same hold r3⟩) hp
  · cases e
theorem ev_ix (ha : EvE X T EE a fa) (hb : EvE X T EE b fb) (hs : PlainIx b) : EvE X T EE (.Subscript a b pos) (fun ρ => M.bind (fa ρ) fun x => M.bind (fb ρ) fun y => M.opt (ixD x y)) :=
  ⟨(pe_ix ix_dIx ha.pe hb.pe hs).dimp fun σ H Q h => two h⟩
/-! slices -/
def partD : D → Option (Option Int)
  | .int i => some (some i)
  | _ => none
structure EvO (X : Cx) (T : Tab) (EE : XX) (e : Option Expr) (f : En → M (Option Int)) : Prop where
  po : PO X e (dG X.K T EE (fun _ _ a b => a = b) f)
theorem _root_.L2.PO.dimp {X : Cx} {e : Option Expr} {t t' : TO} (h : PO X e t) (i : ∀ σ H Q, t' σ H Q → t σ H Q) : PO X e t' := ⟨fun pins s σ H Q I q => h.run pins s σ H Q I (i _ _ _ q)⟩
theorem eo_none : EvO X T EE none (fun _ S => .ok none S) := ⟨po_none.dimp fun σ H Q h => by
  obtain ⟨γ, hid, S, ρ, hold, env, h⟩ := h
  exact h γ H none hold (Ext.refl _ _ _) rfl⟩
theorem eo_some (h : EvE X T EE e f) : EvO X T EE (some e) (fun ρ => M.bind (f ρ) fun d => M.opt fun _ => partD d) := by
  refine ⟨(po_some h.pe).dimp fun σ H Q h => ?_⟩
  refine (show dG X.K T EE (repE X.K T) f σ H _ from ?_)
  obtain ⟨_, _, _, _, h1, h2, h3⟩ := bindD (rep := repE X.K T) h
  refine ⟨_, _, _, _, h1, h2, h3.imp fun x H1 ⟨d1, γ1, hid, S1, ρ, q1, q3, q4, q5⟩ => ?_⟩
  obtain ⟨o, e, w5⟩ := opt_ok q5
  unfold partD at e
  split at e
  · cases e
    cases q4
    exact ⟨_, rfl, w5 γ1 H1 _ q1 (Ext.refl _ _ _) rfl⟩
  · cases e
def cutD (l : List D) (lo hi : Option Int) : List D := (l.drop (HT.sIx l.length 0 lo)).take (HT.sIx l.length l.length hi - HT.sIx l.length 0 lo)
theorem cutD_rep {K : PySem.W.Frag} {γ : List Addr} {F : Hp} {l : List D} {vs : List V} (r : RpL K T γ F l vs) (lo hi : Option Int) : RpL K T γ F (cutD l lo hi) (cutV vs lo hi) := by
  unfold cutD cutV
  rw [r.length]
  exact (r.drop _).take _
theorem cutD_len (l : List D) (lo hi : Option Int) : (cutD l lo hi).length ≤ l.length := by
  unfold cutD
  rw [List.length_take, List.length_drop]
  omega
def slL (d : D) (lo hi : Option Int) (S : Cells) : Option (List D) := (seqL S d).map fun l => cutD l lo hi
def slD (d : D) (lo hi : Option Int) (S : Cells) : Option D := match d with
  | .tup l => some (.tup (cutD l lo hi))
  | .str x => some (.str (cutS x lo hi))
  | d => (slL d lo hi S).map .lst
theorem cutD_whole {l : List D} {lo hi : Option Int} (h : HT.sIx l.length 0 lo = 0 ∧ HT.sIx l.length l.length hi = l.length) : cutD l lo hi = l := by
  unfold cutD
  rw [h.1, h.2, List.drop_zero, Nat.sub_zero, List.take_length]
theorem cutS_len (x : Str) (lo hi : Option Int) : (cutS x lo hi).length ≤ x.length := by
  unfold cutS
  show (Array.size _) ≤ x.cps.size
  rw [List.size_toArray, List.length_take, List.length_drop, Array.length_toList]
  omega
theorem sl_dSl : SlR X (fun x lo hi H Q => ∃ γ hid S d d', Hold X.K T γ hid S H ∧ Rp X.K T γ (out γ S hid H) d x ∧ slD d lo hi S = some d' ∧ okV X.K T γ hid S H d' S Q) := by
  intro pins s σ H x v vl vu lo hi sl Q I rx hs pl pu h
  obtain ⟨γ, hid, S, d, d', hold, r1, e, q⟩ := h
  unfold slD at e
  split at e
  · cases e
    obtain ⟨p1, vs1, rfl, s1, z1, g1⟩ := seqT_ok r1 rfl
    refine sl_tupA pins s σ H _ v vl vu lo hi sl Q I rx hs pl pu ⟨_, _, rfl, s1, fun w => ?_, fun _ => q.tup hold (Nat.le_trans (cutD_len _ _ _) z1) (cutD_rep g1 lo hi)⟩
    rw [← g1.length] at w
    rw [cutD_whole w] at q
    exact q.same hold r1
  · cases e
    cases r1 with
    | str z hz => exact sl_str pins s σ H _ v vl vu lo hi sl Q I rx hs pl pu ⟨_, rfl, hz, q.same hold (.str _ (Nat.le_trans (cutS_len _ _ _) hz))⟩
  · cases el : slL d lo hi S with
    | none => rw [el] at e; cases e
    | some l =>
      rw [el] at e
      cases e
      unfold slL at el
      cases eq : seqL S d with
      | none => rw [eq] at el; cases el
      | some l0 =>
        rw [eq] at el
        cases el
        obtain ⟨p1, vs1, rfl, s1, z1, g1⟩ := seqL_ok hold r1 eq
        exact sl_list pins s σ H _ v vl vu lo hi sl Q I rx hs pl pu ⟨_, _, rfl, s1, q.lst hold (Nat.le_trans (cutD_len _ _ _) z1) (cutD_rep g1 lo hi)⟩
theorem sl_dSlL : SlR X (fun x lo hi H Q => ∃ γ hid S d d', Hold X.K T γ hid S H ∧ Rp X.K T γ (out γ S hid H) d x ∧ slL d lo hi S = some d' ∧ okL X.K T γ hid S H d' S Q) := by
  intro pins s σ H x v vl vu lo hi sl Q I rx hs pl pu h
  obtain ⟨γ, hid, S, d, d', hold, r1, e, q⟩ := h
  unfold slL at e
  cases eq : seqL S d with
  | none => rw [eq] at e; cases e
  | some l0 =>
    rw [eq] at e
    cases e
    obtain ⟨p1, vs1, rfl, s1, z1, g1⟩ := seqL_ok hold r1 eq
    exact sl_list pins s σ H _ v vl vu lo hi sl Q I rx hs pl pu ⟨_, _, rfl, s1, q.lst hold (Nat.le_trans (cutD_len _ _ _) z1) (cutD_rep g1 lo hi)⟩
variable {lo hi : Option Expr} {fl fh : En → M (Option Int)} {p2 : Pos}
theorem ev_slice (he : EvE X T EE e f) (hl : EvO X T EE lo fl) (hh : EvO X T EE hi fh) : EvE X T EE (.Subscript e (.Slice lo hi none p2) pos) (fun ρ => M.bind (f ρ) fun d => M.bind (fl ρ) fun i => M.bind (fh ρ) fun j => M.opt (slD d i j)) := by
  refine ⟨(pe_slice (sl_dSl (T := T)) he.pe hl.po hh.po).dimp fun σ H Q h => ?_⟩
  refine (show dG X.K T EE (repE X.K T) f σ H _ from ?_)
  obtain ⟨γ, hid, S, ρ, hold, env, h⟩ := h
  obtain ⟨_, _, _, _, h1, h2, h3⟩ := bindR (rep := repE X.K T) hold env h
  refine ⟨_, _, _, _, h1, h2, h3.imp fun x H1 ⟨d1, γ1, S1, q1, q2, q3, q4, q5⟩ => ?_⟩
  obtain ⟨_, _, _, _, h1, h2, h3⟩ := bindR (rep := fun _ _ a b => a = b) q1 q3 q5
  refine ⟨_, _, _, _, h1, h2, h3.imp fun i H2 ⟨i', γ2, S2, w1, w2, w3, w4, w5⟩ => ?_⟩
  cases w4
  obtain ⟨_, _, _, _, h1, h2, h3⟩ := bindR (rep := fun _ _ a b => a = b) w1 w3 w5
  refine ⟨_, _, _, _, h1, h2, h3.imp fun j H3 ⟨j', γ3, S3, u1, u2, u3, u4, u5⟩ => ?_⟩
  cases u4
  obtain ⟨d', e, w5⟩ := opt_ok u5
  exact ⟨γ3, hid, S3, d1, d', u1, u2.rp (w2.rp q4), e, w5⟩
theorem evL_slice (he : EvE X T EE e f) (hl : EvO X T EE lo fl) (hh : EvO X T EE hi fh) : EvL X T EE (.Subscript e (.Slice lo hi none p2) pos) (fun ρ => M.bind (f ρ) fun d => M.bind (fl ρ) fun i => M.bind (fh ρ) fun j => M.opt (slL d i j)) := by
  refine ⟨(pe_slice (sl_dSlL (T := T)) he.pe hl.po hh.po).dimp fun σ H Q h => ?_⟩
  refine (show dG X.K T EE (repE X.K T) f σ H _ from ?_)
  obtain ⟨γ, hid, S, ρ, hold, env, h⟩ := h
  obtain ⟨_, _, _, _, h1, h2, h3⟩ := bindR (rep := repE X.K T) hold env h
  refine ⟨_, _, _, _, h1, h2, h3.imp fun x H1 ⟨d1, γ1, S1, q1, q2, q3, q4, q5⟩ => ?_⟩
  obtain ⟨_, _, _, _, h1, h2, h3⟩ := bindR (rep := fun _ _ a b => a = b) q1 q3 q5
  refine ⟨_, _, _, _, h1, h2, h3.imp fun i H2 ⟨i', γ2, S2, w1, w2, w3, w4, w5⟩ => ?_⟩
  cases w4
  obtain ⟨_, _, _, _, h1, h2, h3⟩ := bindR (rep := fun _ _ a b => a = b) w1 w3 w5
  refine ⟨_, _, _, _, h1, h2, h3.imp fun j H3 ⟨j', γ3, S3, u1, u2, u3, u4, u5⟩ => ?_⟩
  cases u4
  obtain ⟨d', e, w5⟩ := opt_ok u5
  exact ⟨γ3, hid, S3, d1, d', u1, u2.rp (w2.rp q4), e, fun γ' H' vs a1 a2 a3 a4 => w5 γ' H' vs a1 a2 ⟨a3, a4⟩⟩
/-- xs[::-1] of a list -/
theorem evL_rev {k : Nat} {p1 p3 : Pos} (he : EvE X T EE e f) : EvL X T EE (.Subscript e (.Slice none none (some (.UnaryOp .USub (.Constant (.int 1) k p1) p2)) p3) pos) (fun ρ => M.bind (f ρ) fun d => M.opt fun S => (seqL S d).map List.reverse) := by
  refine ⟨(pe_revL he.pe).dimp fun σ H Q h => ?_⟩
  refine (show dG X.K T EE (repE X.K T) f σ H _ from ?_)
  obtain ⟨_, _, _, _, h1, h2, h3⟩ := bindD (rep := repE X.K T) h
  refine ⟨_, _, _, _, h1, h2, h3.imp fun x H1 ⟨d1, γ1, hid, S1, ρ, q1, q3, q4, q5⟩ => ?_⟩
  obtain ⟨l, e, w5⟩ := opt_ok q5
  cases eq : seqL S1 d1 with
  | none => rw [eq] at e; cases e
  | some l0 =>
    rw [eq] at e
    cases e
    obtain ⟨p1, vs1, rfl, s1, z1, g1⟩ := seqL_ok q1 q4 eq
    exact ⟨_, _, rfl, s1, w5 γ1 H1 _ q1 (Ext.refl _ _ _) ⟨by rw [List.length_reverse]; exact z1, g1.reverse⟩⟩
end
end DL
end
section
set_option maxHeartbeats 4000000
/-! DLf: built-in functions over data. -/
namespace DL
open PySem PySem.Spec L2
open PyProof.Rows hiding St
/-- a call by its data function -/
def rC (K : PySem.W.Frag) (T : Tab) (op : List D → Cells → Option D) : List V → Hp → VK → Prop := fun vs H Q => ∃ γ hid S ds d, Hold K T γ hid S H ∧ RpL K T γ (out γ S hid H) ds vs ∧ op ds S = some d ∧ okV K T γ hid S H d S Q
def rCL (K : PySem.W.Frag) (T : Tab) (op : List D → Cells → Option (List D)) : List V → Hp → VK → Prop := fun vs H Q => ∃ γ hid S ds l, Hold K T γ hid S H ∧ RpL K T γ (out γ S hid H) ds vs ∧ op ds S = some l ∧ okL K T γ hid S H l S Q
section
variable {X : Cx} {T : Tab} {EE : XX} {x : Str} {p pos : Pos} {e : Expr} {es : List Expr} {fs : En → M (List D)} {id tn : String}
theorem cb_read {K : PySem.W.Frag} {op : List D → Cells → Option D} {σ : St} {H : Hp} {Q : VK} (h : dE K T EE (fun ρ => M.bind (fs ρ) fun ds => M.opt (op ds)) σ H Q) : tCB (rC K T op) (dA K T EE fs) σ H Q := by
  refine (show dG K T EE (repA K T) fs σ H _ from ?_)
  obtain ⟨_, _, _, _, h1, h2, h3⟩ := bindD (rep := repA K T) h
  refine ⟨_, _, _, _, h1, h2, h3.imp fun vs H1 ⟨ds, γ1, hid, S1, ρ, q1, q3, q4, q5⟩ => ?_⟩
  obtain ⟨d, e, w5⟩ := opt_ok q5
  exact ⟨γ1, hid, S1, ds, d, q1, q4, e, w5⟩
theorem cbL_read {K : PySem.W.Frag} {op : List D → Cells → Option (List D)} {σ : St} {H : Hp} {Q : VK} (h : dL K T EE (fun ρ => M.bind (fs ρ) fun ds => M.opt (op ds)) σ H Q) : tCB (rCL K T op) (dA K T EE fs) σ H Q := by
  refine (show dG K T EE (repA K T) fs σ H _ from ?_)
  obtain ⟨_, _, _, _, h1, h2, h3⟩ := bindD (rep := repA K T) h
  refine ⟨_, _, _, _, h1, h2, h3.imp fun vs H1 ⟨ds, γ1, hid, S1, ρ, q1, q3, q4, q5⟩ => ?_⟩
  obtain ⟨d, e, w5⟩ := opt_ok q5
  exact ⟨γ1, hid, S1, ds, d, q1, q4, e, fun γ' H' vs a1 a2 z a3 => w5 γ' H' vs a1 a2 ⟨z, a3⟩⟩
theorem ev_cb {op : List D → Cells → Option D} (hc : CallR X (.builtin id) (rC X.K T op)) (hg : Gl X x) (hm : X.mg x = none) (hv : bootBuiltins x = some (.builtin id)) (ha : EvA X T EE (e :: es) fs) (hn : x ≠ "__name__" := by decide) (hdb : (x == ("__debug__" : Str)) = false := by decide)
    (he : starEach (e :: es) X.env = (false, eval e X.env) :: starEach es X.env := by rfl) (hpl : (backTo pos (starEach es X.env)).any (·.1) = false := by rfl) : EvE X T EE (.Call (.Name x p) (e :: es) [] pos) (fun ρ => M.bind (fs ρ) fun ds => M.opt (op ds)) :=
  ⟨(pe_callB hc hg hm hv ha.pa hn hdb he hpl).dimp fun σ H Q h => cb_read h⟩
theorem evL_cb {op : List D → Cells → Option (List D)} (hc : CallR X (.builtin id) (rCL X.K T op)) (hg : Gl X x) (hm : X.mg x = none) (hv : bootBuiltins x = some (.builtin id)) (ha : EvA X T EE (e :: es) fs) (hn : x ≠ "__name__" := by decide) (hdb : (x == ("__debug__" : Str)) = false := by decide)
    (he : starEach (e :: es) X.env = (false, eval e X.env) :: starEach es X.env := by rfl) (hpl : (backTo pos (starEach es X.env)).any (·.1) = false := by rfl) : EvL X T EE (.Call (.Name x p) (e :: es) [] pos) (fun ρ => M.bind (fs ρ) fun ds => M.opt (op ds)) :=
  ⟨(pe_callB hc hg hm hv ha.pa hn hdb he hpl).dimp fun σ H Q h => cbL_read h⟩
theorem ev_ct {op : List D → Cells → Option D} (hc : CallR X (.type tn) (rC X.K T op)) (hg : Gl X x) (hm : X.mg x = none) (hv : bootBuiltins x = some (.type tn)) (ha : EvA X T EE (e :: es) fs) (hn : x ≠ "__name__" := by decide) (hdb : (x == ("__debug__" : Str)) = false := by decide)
    (he : starEach (e :: es) X.env = (false, eval e X.env) :: starEach es X.env := by rfl) (hpl : (backTo pos (starEach es X.env)).any (·.1) = false := by rfl) : EvE X T EE (.Call (.Name x p) (e :: es) [] pos) (fun ρ => M.bind (fs ρ) fun ds => M.opt (op ds)) :=
  ⟨(pe_callTy hc hg hm hv ha.pa hn hdb he hpl).dimp fun σ H Q h => cb_read h⟩
theorem evL_ct {op : List D → Cells → Option (List D)} (hc : CallR X (.type tn) (rCL X.K T op)) (hg : Gl X x) (hm : X.mg x = none) (hv : bootBuiltins x = some (.type tn)) (ha : EvA X T EE (e :: es) fs) (hn : x ≠ "__name__" := by decide) (hdb : (x == ("__debug__" : Str)) = false := by decide)
    (he : starEach (e :: es) X.env = (false, eval e X.env) :: starEach es X.env := by rfl) (hpl : (backTo pos (starEach es X.env)).any (·.1) = false := by rfl) : EvL X T EE (.Call (.Name x p) (e :: es) [] pos) (fun ρ => M.bind (fs ρ) fun ds => M.opt (op ds)) :=
  ⟨(pe_callTy hc hg hm hv ha.pa hn hdb he hpl).dimp fun σ H Q h => cbL_read h⟩
/-! abs, min, max of two, int, str of an int, len, sum, all, any -/
def dAbs (ds : List D) (_ : Cells) : Option D := match ds with
  | [.int i] => some (.int (if i < 0 then -i else i))
  | _ => none
theorem rep1 {K : PySem.W.Frag} {γ : List Addr} {F : Hp} {d : D} {vs : List V} (r : RpL K T γ F [d] vs) : ∃ v, vs = [v] ∧ Rp K T γ F d v := by
  cases r with
  | cons a b =>
    cases b
    exact ⟨_, rfl, a⟩
theorem rep2 {K : PySem.W.Frag} {γ : List Addr} {F : Hp} {d e : D} {vs : List V} (r : RpL K T γ F [d, e] vs) : ∃ v u, vs = [v, u] ∧ Rp K T γ F d v ∧ Rp K T γ F e u := by
  cases r with
  | cons a b =>
    obtain ⟨u, rfl, c⟩ := rep1 b
    exact ⟨_, u, rfl, a, c⟩
theorem cb_abs : CallR X (.builtin "abs") (rC X.K T dAbs) := call_abs.dimp fun vs H Q h => by
  obtain ⟨γ, hid, S, ds, d, hold, r, e, q⟩ := h
  unfold dAbs at e
  split at e
  · cases e
    obtain ⟨v, rfl, r1⟩ := rep1 r
    cases r1
    exact ⟨_, rfl, q.same hold (.int _)⟩
  · cases e
def dMax2 (ds : List D) (_ : Cells) : Option D := match ds with
  | [.int i, .int j] => some (.int (if j > i then j else i))
  | _ => none
def dMin2 (ds : List D) (_ : Cells) : Option D := match ds with
  | [.int i, .int j] => some (.int (if j < i then j else i))
  | _ => none
theorem cb_max2 (hc : X.calm = true) : CallR X (.builtin "max") (rC X.K T dMax2) := (call_max2 hc).dimp fun vs H Q h => by
  obtain ⟨γ, hid, S, ds, d, hold, r, e, q⟩ := h
  unfold dMax2 at e
  split at e
  · cases e
    obtain ⟨v, u, rfl, r1, r2⟩ := rep2 r
    cases r1
    cases r2
    exact ⟨_, _, rfl, q.same hold (.int _)⟩
  · cases e
theorem cb_min2 (hc : X.calm = true) : CallR X (.builtin "min") (rC X.K T dMin2) := (call_min2 hc).dimp fun vs H Q h => by
  obtain ⟨γ, hid, S, ds, d, hold, r, e, q⟩ := h
  unfold dMin2 at e
  split at e
  · cases e
    obtain ⟨v, u, rfl, r1, r2⟩ := rep2 r
    cases r1
    cases r2
    exact ⟨_, _, rfl, q.same hold (.int _)⟩
  · cases e
def dInt (ds : List D) (_ : Cells) : Option D := match ds with
  | [.int i] => some (.int i)
  | [.bl b] => some (.int (if b then 1 else 0))
  | _ => none
theorem ct_int : CallR X (.type "int") (rC X.K T dInt) := call_int1.dimp fun vs H Q h => by
  obtain ⟨γ, hid, S, ds, d, hold, r, e, q⟩ := h
  unfold dInt at e
  split at e
  · cases e
    obtain ⟨v, rfl, r1⟩ := rep1 r
    cases r1
    exact .inl ⟨_, rfl, q.same hold (.int _)⟩
  · cases e
    obtain ⟨v, rfl, r1⟩ := rep1 r
    cases r1
    exact .inr ⟨_, rfl, q.same hold (.int _)⟩
  · cases e
def dLen (ds : List D) (S : Cells) : Option D := match ds with
  | [.str x] => some (.int x.length)
  | [.tup l] => some (.int l.length)
  | [d] => (seqL S d).map fun l => .int l.length
  | _ => none
theorem cb_len : CallR X (.builtin "len") (rC X.K T dLen) := call_len.dimp fun vs H Q h => by
  obtain ⟨γ, hid, S, ds, d, hold, r, e, q⟩ := h
  unfold dLen at e
  split at e
  · cases e
    obtain ⟨v, rfl, r1⟩ := rep1 r
    cases r1 with
    | str x z => exact ⟨_, _, rfl, ⟨z, rfl⟩, q.same hold (.int _)⟩
  · cases e
    obtain ⟨v, rfl, r1⟩ := rep1 r
    cases r1 with
    | tup a z b => exact ⟨_, _, rfl, .inr ⟨_, same_seqT (out_sub _ _ _ _) a, b.length⟩, q.same hold (.int _)⟩
  · rename_i d0 _ _
    obtain ⟨v, rfl, r1⟩ := rep1 r
    cases eq : seqL S d0 with
    | none => rw [eq] at e; cases e
    | some l =>
      rw [eq] at e
      cases e
      obtain ⟨a, ws, rfl, s1, z, g⟩ := seqL_ok hold r1 eq
      exact ⟨_, _, rfl, .inl ⟨_, s1, g.length⟩, q.same hold (.int _)⟩
  · cases e
def listOf (ds : List D) (S : Cells) : Option (List D) := match ds with
  | [d] => seqL S d
  | _ => none
def dSum (ds : List D) (S : Cells) : Option D := ((listOf ds S).bind ints?).map fun ns => .int ns.sum
theorem intsOf_ok {K : PySem.W.Frag} {γ hid : List Addr} {S : Cells} {H : Hp} {ds : List D} {vs : List V} {ns : List Int} (hold : Hold K T γ hid S H) (r : RpL K T γ (out γ S hid H) ds vs) (e : (listOf ds S).bind ints? = some ns) :
    ∃ a, vs = [.ref a] ∧ SqL K H a (ns.map V.int) ∧ ns.length ≤ sizeLine := by
  cases el : listOf ds S with
  | none => rw [el] at e; cases e
  | some l =>
    rw [el] at e
    unfold listOf at el
    split at el
    · obtain ⟨v, rfl, r1⟩ := rep1 r
      obtain ⟨a, ws, rfl, s1, z, g⟩ := seqL_ok hold r1 el
      obtain ⟨h1, h2⟩ := ints?_rep g e
      subst h1
      subst h2
      exact ⟨a, rfl, s1, by rw [List.length_map] at z; exact z⟩
    · cases el
theorem cb_sum (hc : X.calm = true) : CallR X (.builtin "sum") (rC X.K T dSum) := (cr_sum hc).dimp fun vs H Q h => by
  obtain ⟨γ, hid, S, ds, d, hold, r, e, q⟩ := h
  unfold dSum at e
  cases ei : (listOf ds S).bind ints? with
  | none => rw [ei] at e; cases e
  | some ns =>
    rw [ei] at e
    cases e
    obtain ⟨a, rfl, s1, _⟩ := intsOf_ok hold r ei
    exact ⟨a, ns, rfl, s1, q.same hold (.int _)⟩
theorem blsOf_ok {K : PySem.W.Frag} {γ hid : List Addr} {S : Cells} {H : Hp} {ds : List D} {vs : List V} {ns : List Bool} (hold : Hold K T γ hid S H) (r : RpL K T γ (out γ S hid H) ds vs) (e : (listOf ds S).bind bls? = some ns) :
    ∃ a, vs = [.ref a] ∧ SqL K H a (ns.map V.bl) := by
  cases el : listOf ds S with
  | none => rw [el] at e; cases e
  | some l =>
    rw [el] at e
    unfold listOf at el
    split at el
    · obtain ⟨v, rfl, r1⟩ := rep1 r
      obtain ⟨a, ws, rfl, s1, z, g⟩ := seqL_ok hold r1 el
      obtain ⟨h1, h2⟩ := bls?_rep g e
      subst h1
      exact ⟨a, rfl, s1⟩
    · cases el
def dAll (ds : List D) (S : Cells) : Option D := ((listOf ds S).bind bls?).map fun bs => .bl (bs.all _root_.id)
def dAny (ds : List D) (S : Cells) : Option D := ((listOf ds S).bind bls?).map fun bs => .bl (bs.any _root_.id)
theorem cb_all (hc : X.calm = true) : CallR X (.builtin "all") (rC X.K T dAll) := (cr_all hc).dimp fun vs H Q h => by
  obtain ⟨γ, hid, S, ds, d, hold, r, e, q⟩ := h
  unfold dAll at e
  cases ei : (listOf ds S).bind bls? with
  | none => rw [ei] at e; cases e
  | some ns =>
    rw [ei] at e
    cases e
    obtain ⟨a, rfl, s1⟩ := blsOf_ok hold r ei
    exact ⟨a, ns, rfl, s1, q.same hold (.bl _)⟩
theorem cb_any (hc : X.calm = true) : CallR X (.builtin "any") (rC X.K T dAny) := (cr_any hc).dimp fun vs H Q h => by
  obtain ⟨γ, hid, S, ds, d, hold, r, e, q⟩ := h
  unfold dAny at e
  cases ei : (listOf ds S).bind bls? with
  | none => rw [ei] at e; cases e
  | some ns =>
    rw [ei] at e
    cases e
    obtain ⟨a, rfl, s1⟩ := blsOf_ok hold r ei
    exact ⟨a, ns, rfl, s1, q.same hold (.bl _)⟩
/-! list(x), tuple(x) of lists and tuples -/
def dListOf (ds : List D) (S : Cells) : Option (List D) := match ds with
  | [.tup l] => some l
  | [d] => seqL S d
  | _ => none
theorem ct_list : CallR X (.type "list") (rCL X.K T dListOf) := call_list_of.dimp fun vs H Q h => by
  obtain ⟨γ, hid, S, ds, l, hold, r, e, q⟩ := h
  unfold dListOf at e
  split at e
  · cases e
    obtain ⟨v, rfl, r1⟩ := rep1 r
    cases r1 with
    | tup a z b => exact ⟨_, _, rfl, .inr (same_seqT (out_sub _ _ _ _) a), q.lst hold z b⟩
  · obtain ⟨v, rfl, r1⟩ := rep1 r
    obtain ⟨a, ws, rfl, s1, z, g⟩ := seqL_ok hold r1 e
    exact ⟨_, _, rfl, .inl s1, q.lst hold z g⟩
  · cases e
def dTupleOf (ds : List D) (S : Cells) : Option D := match ds with
  | [.tup l] => some (.tup l)
  | [d] => (seqL S d).map .tup
  | _ => none
theorem ct_tuple : CallR X (.type "tuple") (rC X.K T dTupleOf) := call_tuple_of.dimp fun vs H Q h => by
  obtain ⟨γ, hid, S, ds, d, hold, r, e, q⟩ := h
  unfold dTupleOf at e
  split at e
  · cases e
    obtain ⟨v, rfl, r1⟩ := rep1 r
    cases r1 with
    | tup a z b => exact ⟨_, _, rfl, .inr ⟨same_seqT (out_sub _ _ _ _) a, q.same hold (.tup a z b)⟩⟩
  · rename_i d0 _
    obtain ⟨v, rfl, r1⟩ := rep1 r
    cases eq : seqL S d0 with
    | none => rw [eq] at e; cases e
    | some l =>
      rw [eq] at e
      cases e
      obtain ⟨a, ws, rfl, s1, z, g⟩ := seqL_ok hold r1 eq
      exact ⟨_, _, rfl, .inl ⟨s1, q.tup hold z g⟩⟩
  · cases e
/-! min, max of ints in a list or a tuple -/
def minI (x : Int) (xs : List Int) : Int := PySem.W.minOf x xs
def maxI (x : Int) (xs : List Int) : Int := PySem.W.maxOf x xs
def seqA (S : Cells) : D → Option (List D)
  | .tup l => some l
  | d => seqL S d
def dMinL (ds : List D) (S : Cells) : Option D := match ds with
  | [d] => match (seqA S d).bind ints? with
    | some (x :: xs) => some (.int (minI x xs))
    | _ => none
  | _ => none
def dMaxL (ds : List D) (S : Cells) : Option D := match ds with
  | [d] => match (seqA S d).bind ints? with
    | some (x :: xs) => some (.int (maxI x xs))
    | _ => none
  | _ => none
theorem seqA_ok {K : PySem.W.Frag} {γ hid : List Addr} {S : Cells} {H : Hp} (h : Hold K T γ hid S H) {d : D} {v : V} {l : List D} (r : Rp K T γ (out γ S hid H) d v) (e : seqA S d = some l) : ∃ a vs, v = .ref a ∧ (SqL K H a vs ∨ SqT K H a vs) ∧ l.length ≤ sizeLine ∧ RpL K T γ (out γ S hid H) l vs := by
  unfold seqA at e
  split at e
  · cases e
    obtain ⟨a, vs, h1, h2, h3, h4⟩ := seqT_ok r rfl
    exact ⟨a, vs, h1, .inr h2, h3, h4⟩
  · obtain ⟨a, vs, h1, h2, h3, h4⟩ := seqL_ok h r e
    exact ⟨a, vs, h1, .inl h2, h3, h4⟩
theorem cb_minL (hc : X.calm = true) (hu : X.A.units + 64 < cLine) : CallR X (.builtin "min") (rC X.K T dMinL) := by
  intro pins s σ H vs us Q I rv h
  obtain ⟨γ, hid, S, ds, d, hold, r, e, q⟩ := h
  unfold dMinL at e
  split at e
  · rename_i d0
    split at e
    · rename_i x xs ei
      cases e
      obtain ⟨v, rfl, r1⟩ := rep1 r
      cases es : seqA S d0 with
      | none => rw [es] at ei; cases ei
      | some l =>
        rw [es] at ei
        obtain ⟨a, ws, rfl, s1, z, g⟩ := seqA_ok hold r1 es
        obtain ⟨h1, h2⟩ := ints?_rep g ei
        subst h1
        rw [Vals.ref1 rv]
        have fin : ∀ (v : Value) (h' : Heap) (tk : Nat), PySem.W.Holds h' v (PySem.W.minOf x xs) → (∀ b o, s.heap.get? b = some o → h'.get? b = some o) → EP X pins σ Q v { s with heap := h', toks := tk } := fun v h' tk hv hk => by
          obtain ⟨t, rfl⟩ := PySem.W.int_of_holds hv
          exact ⟨.int _, H, I.kept hk, ⟨t, rfl⟩, q.same hold (.int _)⟩
        have room : X.A.units + 1 + PySem.W.Datum.depth Int < cLine := by
          show X.A.units + 1 + 0 < cLine
          omega
        rcases s1 with s1 | s1
        · obtain ⟨its, rw', pl, _⟩ := I.list s1
          exact PySem.W.min_list_datum (x := x) (xs := xs) (I.ok.hd hc) pl.isList (PySem.W.HoldAll.of_ints rw'.ints) room fun i v h' tk _ hv hk => fin v h' tk hv hk
        · obtain ⟨its, rw', pl, _⟩ := I.tuple s1
          exact PySem.W.min_tuple_datum (x := x) (xs := xs) (I.ok.hd hc) pl (PySem.W.HoldAll.of_ints rw'.ints) room fun i v h' tk _ hv hk => fin v h' tk hv hk
    · cases e
  · cases e
theorem cb_maxL (hc : X.calm = true) (hu : X.A.units + 64 < cLine) : CallR X (.builtin "max") (rC X.K T dMaxL) := by
  intro pins s σ H vs us Q I rv h
  obtain ⟨γ, hid, S, ds, d, hold, r, e, q⟩ := h
  unfold dMaxL at e
  split at e
  · rename_i d0
    split at e
    · rename_i x xs ei
      cases e
      obtain ⟨v, rfl, r1⟩ := rep1 r
      cases es : seqA S d0 with
      | none => rw [es] at ei; cases ei
      | some l =>
        rw [es] at ei
        obtain ⟨a, ws, rfl, s1, z, g⟩ := seqA_ok hold r1 es
        obtain ⟨h1, h2⟩ := ints?_rep g ei
        subst h1
        rw [Vals.ref1 rv]
        have fin : ∀ (v : Value) (h' : Heap) (tk : Nat), PySem.W.Holds h' v (PySem.W.maxOf x xs) → (∀ b o, s.heap.get? b = some o → h'.get? b = some o) → EP X pins σ Q v { s with heap := h', toks := tk } := fun v h' tk hv hk => by
          obtain ⟨t, rfl⟩ := PySem.W.int_of_holds hv
          exact ⟨.int _, H, I.kept hk, ⟨t, rfl⟩, q.same hold (.int _)⟩
        have room : X.A.units + 1 + PySem.W.Datum.depth Int < cLine := by
          show X.A.units + 1 + 0 < cLine
          omega
        rcases s1 with s1 | s1
        · obtain ⟨its, rw', pl, _⟩ := I.list s1
          exact PySem.W.max_list_datum (x := x) (xs := xs) (I.ok.hd hc) pl.isList (PySem.W.HoldAll.of_ints rw'.ints) room fun i v h' tk _ hv hk => fin v h' tk hv hk
        · obtain ⟨its, rw', pl, _⟩ := I.tuple s1
          exact PySem.W.max_tuple_datum (x := x) (xs := xs) (I.ok.hd hc) pl (PySem.W.HoldAll.of_ints rw'.ints) room fun i v h' tk _ hv hk => fin v h' tk hv hk
    · cases e
  · cases e
/-! repr -/
def reprD (ds : List D) (S : Cells) : Option D := match ds with
  | [.int i] => if i.natAbs.log2 < 1920 ∧ (toString i : Str).length ≤ sizeLine then some (.str (toString i)) else none
  | [.non] => some (.str "None")
  | [d] => match vw S d with
    | some p => match p with
      | .list _ => if p.showable = true ∧ p.hasDict = false ∧ p.depth ≤ 60 ∧ p.shown.length ≤ sizeLine then some (.str p.shown) else none
      | .tuple _ => if p.showable = true ∧ p.hasDict = false ∧ p.depth ≤ 60 ∧ p.shown.length ≤ sizeLine then some (.str p.shown) else none
      | _ => none
    | none => none
  | _ => none
theorem repr_ref (hu : X.A.units + 64 < cLine) (nr : NoRepr X.A) {pins : List (Addr × Obj)} {s : Shared} {σ : St} {H : Hp} {us : List Value} {Q : VK} {v : V} {p : PyData} (I : Inv X pins σ H s) (rv : Vals [v] us) (dp : Dp X.K H v p) (hp : (∃ l, p = .list l) ∨ ∃ l, p = .tuple l)
    (z : p.showable = true ∧ p.hasDict = false ∧ p.depth ≤ 60 ∧ p.shown.length ≤ sizeLine) (q : Q (.str p.shown) H) : wpAny (model X.prog X.w) X.A (call (.builtin "repr") us) (EP X pins σ Q) X.xe s := by
  obtain ⟨u, rfl, ru⟩ := vals1 rv
  obtain ⟨as, rd⟩ := Dp.reads I p v u dp ru
  have hr : ∃ a, v = .ref a := by
    rcases hp with ⟨l, rfl⟩ | ⟨l, rfl⟩ <;> cases dp <;> exact ⟨_, rfl⟩
  obtain ⟨a, rfl⟩ := hr
  obtain rfl : u = Value.ref a := ru
  obtain ⟨z1, z2, z3, z4⟩ := z
  exact repr_of_reads' rd z1 (fun h => by rw [z2] at h; cases h) nr (by omega) (fun _ _ z => z) (fun h' u tk hk => ⟨.str _, H, I.kept hk, ⟨u, rfl⟩, q⟩) z4
theorem cb_repr (hu : X.A.units + 64 < cLine) (nr : NoRepr X.A) : CallR X (.builtin "repr") (rC X.K T reprD) := by
  intro pins s σ H vs us Q I rv h
  obtain ⟨γ, hid, S, ds, d, hold, r, e, q⟩ := h
  unfold reprD at e
  split at e
  · split at e
    · cases e
      rename_i z
      obtain ⟨v, rfl, r1⟩ := rep1 r
      cases r1
      obtain ⟨u, rfl, ru⟩ := vals1 rv
      obtain ⟨t, rfl⟩ := ru
      exact PySem.P.repr_of_int z.1 ⟨.str _, H, I.tok _, ⟨_, rfl⟩, q.same hold (.str _ z.2)⟩
    · cases e
  · cases e
    obtain ⟨v, rfl, r1⟩ := rep1 r
    cases r1
    obtain ⟨u, rfl, ru⟩ := vals1 rv
    obtain rfl : u = Value.none := ru
    exact PySem.P.repr_of_none ⟨.str _, H, I.tok _, ⟨_, rfl⟩, q.same hold (.str _ (by decide +kernel))⟩
  · rename_i d0 _ _
    obtain ⟨v, rfl, r1⟩ := rep1 r
    split at e
    · rename_i p ev
      have dp := vw_ok hold r1 ev
      split at e
      · split at e
        · cases e
          rename_i z
          exact repr_ref hu nr I rv dp (.inl ⟨_, rfl⟩) z (q.same hold (.str _ z.2.2.2))
        · cases e
      · split at e
        · cases e
          rename_i z
          exact repr_ref hu nr I rv dp (.inr ⟨_, rfl⟩) z (q.same hold (.str _ z.2.2.2))
        · cases e
      · cases e
    · cases e
  · cases e
/-! isinstance with a built-in class -/
/-- the name of a value's class -/
def tyName : D → Option String
  | .non => some "NoneType"
  | .bl _ => some "bool"
  | .int _ => some "int"
  | .str _ => some "str"
  | .lst _ => some "list"
  | .ref _ => some "list"
  | .tup _ => some "tuple"
  | .obj _ _ => none
theorem tyX_of {K : PySem.W.Frag} {γ hid : List Addr} {S : Cells} {H : Hp} (h : Hold K T γ hid S H) {d : D} {v : V} {n : String} (r : Rp K T γ (out γ S hid H) d v) (e : tyName d = some n) (hl : ∀ k, d = .ref k → (seqL S d).isSome = true) : TyX K H v (.type n) := by
  cases r with
  | non => cases e; exact .base .non
  | bl b => cases e; exact .base (.bl b)
  | int i => cases e; exact .base (.int i)
  | str x z => cases e; exact .base (.str x)
  | lst a z b =>
    cases e
    rcases (out_sub _ _ _ _).seq a with (a | ⟨o, a⟩) | ⟨o, its, m, h1, h2, _⟩
    · exact .base (.lst a)
    · exact .base (.frz a)
    · exact .kList h1 h2
  | tup a z b =>
    cases e
    rcases same_seqT (out_sub _ _ _ _) a with (a | ⟨o, a⟩) | ⟨o, its, m, h1, h2, _⟩
    · exact .base (.tup a)
    · exact .fTuple a
    · exact .kTuple h1 h2
  | ref a =>
    rename_i k _
    cases e
    cases q : seqL S (.ref k) with
    | none =>
      have z := hl k rfl
      rw [q] at z
      cases z
    | some l =>
      obtain ⟨p, vs, e1, s1, _, _⟩ := seqL_ok h (Rp.ref (K := K) (T := T) (F := out γ S hid H) a) q
      cases e1
      rcases s1 with (s1 | ⟨o, s1⟩) | ⟨o, its, m, h1, h2, _⟩
      · exact .base (.lst s1)
      · exact .base (.frz s1)
      · exact .kList h1 h2
  | obj a b c => cases e
def isiD (tab : String → Bool) (d : D) (S : Cells) : Option D := match tyName d with
  | some n => match d with
    | .ref _ => if (seqL S d).isSome = true then some (.bl (tab n)) else none
    | _ => some (.bl (tab n))
  | none => none
def tyNames : List String := ["NoneType", "bool", "int", "str", "list", "tuple"]
theorem tyName_mem {d : D} {n : String} (e : tyName d = some n) : n ∈ tyNames := by
  cases d <;> cases e <;> decide
theorem ev_isi {f : En → M D} {x2 : Str} {p2 : Pos} (tab : String → Bool) (hk : ∀ a ∈ tyNames, kitB a tn = some (tab a)) (hg : Gl X "isinstance") (hm : X.mg "isinstance" = none) (hv : bootBuiltins "isinstance" = some (.builtin "isinstance")) (he : EvE X T EE e f) (hg2 : Gl X x2) (hm2 : X.mg x2 = none) (hv2 : bootBuiltins x2 = some (.type tn))
    (hn2 : x2 ≠ "__name__" := by decide) (hd2 : (x2 == ("__debug__" : Str)) = false := by decide)
    (hs : starEach [e, .Name x2 p2] X.env = (false, eval e X.env) :: starEach [.Name x2 p2] X.env := by rfl) (hpl : (backTo pos (starEach [.Name x2 p2] X.env)).any (·.1) = false := by rfl) (hs3 : starEach [.Name x2 p2] X.env = (false, eval (.Name x2 p2) X.env) :: starEach [] X.env := by rfl) :
    EvE X T EE (.Call (.Name "isinstance" p) [e, .Name x2 p2] [] pos) (fun ρ => M.bind (f ρ) fun d => M.opt (isiD tab d)) := by
  have ha : PA X [e, .Name x2 p2] (tCons (dE X.K T EE f) (tCons (tC (.ty tn)) tNil)) := pa_cons he.pe (pa_cons (pe_bltn hg2 hm2 hv2 rfl hn2 hd2) pa_nil hs3) hs
  refine ⟨(pe_callB call_isi hg hm hv ha (by decide) (by decide) hs hpl).dimp fun σ H Q h => ?_⟩
  refine (show dG X.K T EE (repE X.K T) f σ H _ from ?_)
  obtain ⟨_, _, _, _, h1, h2, h3⟩ := bindD (rep := repE X.K T) h
  refine ⟨_, _, _, _, h1, h2, h3.imp fun v H1 ⟨d, γ1, hid, S1, ρ, q1, q3, q4, q5⟩ => ?_⟩
  obtain ⟨r, er, w5⟩ := opt_ok q5
  unfold isiD at er
  split at er
  · rename_i n en
    have fin : d ≠ d ∨ (∀ k, d = .ref k → (seqL S1 d).isSome = true) → some (D.bl (tab n)) = some r → rIsi X.K [v, .ty tn] H1 Q := fun hl er => by
      cases er
      have hl := hl.resolve_left (fun z => z rfl)
      exact ⟨v, .ty tn, .type n, .type tn, tab n, rfl, .ty tn, tyX_of q1 q4 en hl, kit_ty (hk n (tyName_mem en)), w5 γ1 H1 _ q1 (Ext.refl _ _ _) (.bl _)⟩
    split at er
    · split at er
      · rename_i hz
        exact fin (.inr fun k _ => hz) er
      · cases er
    · rename_i hne
      exact fin (.inr fun k ek => absurd ek (hne k)) er
  · cases er
end
end DL
end
section
set_option maxHeartbeats 4000000
/-! DLg: sorted, sets of ints, ranges as lists, slices with a step, methods of lists, stores. -/
namespace DL
open PySem PySem.Spec L2
open PyProof.Rows hiding St

/-! ### sorted -/
def leB (a b : Int) : Bool := decide (a ≤ b)
def leP (p q : Int × Int) : Bool := !SrtO.lexB q p
def sortI (ns : List Int) : List Int := ns.mergeSort leB
def sortP (ps : List (Int × Int)) : List (Int × Int) := ps.mergeSort leP
theorem sortI_uniq {ns ms : List Int} (h : ms.Perm ns) (s : ms.Pairwise (· ≤ ·)) : ms = sortI ns := by
  refine List.Perm.eq_of_pairwise (le := fun a b : Int => a ≤ b) (fun a b _ _ h1 h2 => by omega) s ?_ (h.trans (List.mergeSort_perm ns leB).symm)
  have := List.pairwise_mergeSort (le := leB) (fun a b c h1 h2 => by
    have a1 : a ≤ b := of_decide_eq_true h1
    have a2 : b ≤ c := of_decide_eq_true h2
    exact decide_eq_true (by omega)) (fun a b => by
    unfold leB
    rcases Int.le_total a b with h | h <;> simp [h]) ns
  exact this.imp fun {a b} h => of_decide_eq_true h
theorem sortP_uniq {ns ms : List (Int × Int)} (h : ms.Perm ns) (s : ms.Pairwise (fun x y => SrtO.lexB y x = false)) : ms = sortP ns := by
  refine List.Perm.eq_of_pairwise (le := fun x y : Int × Int => SrtO.lexB y x = false) (fun a b _ _ h1 h2 => ?_) s ?_ (h.trans (List.mergeSort_perm ns leP).symm)
  · have a1 := SrtO.lexB_no.mp h1
    have a2 := SrtO.lexB_no.mp h2
    exact Prod.ext (by omega) (by omega)
  · have := List.pairwise_mergeSort (le := leP) (fun a b c h1 h2 => by
      unfold leP at *
      simp only [Bool.not_eq_true'] at *
      have a1 := SrtO.lexB_no.mp h1
      have a2 := SrtO.lexB_no.mp h2
      exact SrtO.lexB_no.mpr (by omega)) (fun a b => by
      unfold leP
      cases e1 : SrtO.lexB b a with
      | false => simp
      | true =>
        have q := SrtO.lexB_iff.mp e1
        have : SrtO.lexB a b = false := SrtO.lexB_no.mpr (by omega)
        simp [this]) ns
    exact this.imp fun {a b} h => by
      unfold leP at h
      simpa using h
def encP (p : Int × Int) : D := .tup [.int p.1, .int p.2]
def pair? : D → Option (Int × Int)
  | .tup [.int a, .int b] => some (a, b)
  | _ => none
theorem pair?_enc {d : D} {p : Int × Int} (e : pair? d = some p) : d = encP p := by
  unfold pair? at e
  split at e
  · cases e
    rfl
  · cases e
def pairs? : List D → Option (List (Int × Int))
  | [] => some []
  | d :: ds => match pair? d, pairs? ds with
    | some p, some ps => some (p :: ps)
    | _, _ => none
theorem pairs?_enc : ∀ {ds : List D} {ps : List (Int × Int)}, pairs? ds = some ps → ds = ps.map encP
  | [], ps, e => by cases e; rfl
  | d :: ds, ps, e => by
    unfold pairs? at e
    cases h1 : pair? d with
    | none => rw [h1] at e; cases e
    | some p =>
      cases h2 : pairs? ds with
      | none => rw [h1, h2] at e; cases e
      | some qs =>
        rw [h1, h2] at e
        cases e
        rw [List.map_cons, ← pair?_enc h1, ← pairs?_enc h2]
theorem pairs?_map (ps : List (Int × Int)) : pairs? (ps.map encP) = some ps := by
  induction ps with
  | nil => rfl
  | cons p ps ih =>
    rw [List.map_cons]
    unfold pairs?
    rw [ih]
    rfl
def sortD (ds : List D) (S : Cells) : Option (List D) := match listOf ds S with
  | some l => match ints? l with
    | some ns => some ((sortI ns).map .int)
    | none => match pairs? l with
      | some ps => some ((sortP ps).map encP)
      | none => none
  | none => none
/-- the pair that a value shows in a heap -/
def kH (h : Heap) : Value → Int × Int
  | .ref a => match h.get? a with
    | some o => match o.data with
      | .seq xs _ => match xs.toList with
        | [.int a _, .int b _] => (a, b)
        | _ => (0, 0)
      | _ => (0, 0)
    | none => (0, 0)
  | _ => (0, 0)
section
variable {X : Cx} {T : Tab} {EE : XX}
theorem listOf_ok {K : PySem.W.Frag} {γ hid : List Addr} {S : Cells} {H : Hp} {ds : List D} {vs : List V} {l : List D} (hold : Hold K T γ hid S H) (r : RpL K T γ (out γ S hid H) ds vs) (e : listOf ds S = some l) :
    ∃ a ws, vs = [.ref a] ∧ SqL K H a ws ∧ l.length ≤ sizeLine ∧ RpL K T γ (out γ S hid H) l ws := by
  unfold listOf at e
  split at e
  · obtain ⟨v, rfl, r1⟩ := rep1 r
    obtain ⟨a, ws, rfl, s1, z, g⟩ := seqL_ok hold r1 e
    exact ⟨a, ws, rfl, s1, z, g⟩
  · cases e
/-- a represented pair, in the heap -/
theorem pair_at {pins : List (Addr × Obj)} {s : Shared} {σ : St} {H : Hp} {γ hid : List Addr} {S : Cells} (I : Inv X pins σ H s) {p : Int × Int} {v : V} {u : Value} (r : Rp X.K T γ (out γ S hid H) (encP p) v) (ru : RelV v u) : Srt.IsPair s.heap u p.1 p.2 ∧ kH s.heap u = p ∧ ∃ t, u = .ref t := by
  obtain ⟨a, ws, rfl, s1, z, g⟩ := seqT_ok r rfl
  obtain ⟨v1, v2, rfl, g1, g2⟩ := rep2 g
  cases g1
  cases g2
  obtain rfl : u = Value.ref a := ru
  obtain ⟨its, rv, ⟨o, ho, hc, n, hd⟩, _⟩ := I.tuple s1
  obtain ⟨u1, u2, rfl, q1, q2⟩ := vals2 rv
  obtain ⟨t1, rfl⟩ := q1
  obtain ⟨t2, rfl⟩ := q2
  refine ⟨⟨a, o, t1, t2, n, rfl, ho, hc, hd⟩, ?_, a, rfl⟩
  unfold kH
  simp only [ho, hd]
theorem zip_pairs {pins : List (Addr × Obj)} {s : Shared} {σ : St} {H : Hp} {γ hid : List Addr} {S : Cells} (I : Inv X pins σ H s) : ∀ {ps : List (Int × Int)} {ws : List V} {its : List Value}, RpL X.K T γ (out γ S hid H) (ps.map encP) ws → Vals ws its →
    its.map (kH s.heap) = ps ∧ (∀ u ∈ its, ∃ t, u = Value.ref t) ∧ (∀ u ∈ its, Srt.IsPair s.heap u (kH s.heap u).1 (kH s.heap u).2 ∧ Rp X.K T γ (out γ S hid H) (encP (kH s.heap u)) (backV u))
  | [], _, _, r, v => by
    cases r
    cases v
    exact ⟨rfl, fun _ h => absurd h (by simp), fun _ h => absurd h (by simp)⟩
  | p :: ps, _, _, r, v => by
    cases r with
    | cons r1 r2 =>
      cases v with
      | cons v1 v2 =>
        obtain ⟨h1, h2, h3⟩ := zip_pairs I r2 v2
        obtain ⟨k1, k2, t, rfl⟩ := pair_at I r1 v1
        refine ⟨by rw [List.map_cons, k2, h1], fun u hu => ?_, fun u hu => ?_⟩
        · rcases List.mem_cons.mp hu with e | hu
          · exact ⟨t, e⟩
          · exact h2 u hu
        · rcases List.mem_cons.mp hu with e | hu
          · subst e
            rw [k2]
            refine ⟨k1, ?_⟩
            have e : backV (.ref t) = _ := RelV.inj (u := Value.ref t) rfl v1
            rw [e]
            exact r1
          · exact h3 u hu
theorem rep_map {K : PySem.W.Frag} {γ : List Addr} {F : Hp} {α : Type} (f : α → D) (g : α → V) : ∀ (l : List α), (∀ a ∈ l, Rp K T γ F (f a) (g a)) → RpL K T γ F (l.map f) (l.map g)
  | [], _ => .nil
  | a :: l, h => .cons (h a List.mem_cons_self) (rep_map f g l fun b hb => h b (List.mem_cons_of_mem _ hb))
theorem cb_sorted : CallR X (.builtin "sorted") (rCL X.K T sortD) := by
  intro pins s σ H vs us Q I rv h
  obtain ⟨γ, hid, S, ds, l, hold, r, e, q⟩ := h
  unfold sortD at e
  split at e
  · rename_i l0 el
    obtain ⟨a, ws, rfl, s1, z, g⟩ := listOf_ok hold r el
    split at e
    · rename_i ns en
      cases e
      obtain ⟨h1, h2⟩ := ints?_rep g en
      subst h1
      refine cr_sortedI pins s σ H _ us Q I rv ⟨a, ns, rfl, s1, fun ns' p hp hs np => ?_⟩
      rw [sortI_uniq hp hs]
      have z2 : ((sortI ns).map D.int).length ≤ sizeLine := by
        rw [List.length_map]
        unfold sortI
        rw [(List.mergeSort_perm ns leB).length_eq]
        rw [h2, List.length_map] at z
        exact z
      exact q.lst hold z2 (rep_ints _) p np
    · split at e
      · rename_i ps ep
        cases e
        have e0 := pairs?_enc ep
        subst e0
        obtain ⟨its, rv2, hl, hz⟩ := I.list s1
        obtain ⟨u, rfl, ru⟩ := vals1 rv
        obtain rfl : u = Value.ref a := ru
        obtain ⟨k1, k2, k3⟩ := zip_pairs I g rv2
        refine SrtO.sorted_pairsO (k := kH s.heap) hl.isList (by rw [← rv2.length]; exact hz) (fun v hv => (k3 v hv).1) fun h' d out h1 h2 kp hd hn => ?_
        obtain ⟨n, hn⟩ := hn
        have h3 : ∀ u ∈ out, ∃ t, u = Value.ref t := fun u hu => k2 u (h2.perm.mem_iff.mp hu)
        have ho : out.map (kH s.heap) = sortP ps := by
          refine sortP_uniq ?_ ?_
          · rw [← k1]
            exact h2.perm.map _
          · exact List.pairwise_map.mpr h1
        have hlen : (out.map backV).length ≤ sizeLine := by
          rw [List.length_map, h2.perm.length_eq, ← rv2.length]
          exact hz
        refine ⟨.ref d, upd H d (.lst (out.map backV)), I.laid (t' := s.toks) kp hd ⟨hlen, out, n, vals_back h3, hn⟩, rfl, ?_⟩
        refine q.lst hold ?_ ?_ d (I.hok.fresh hd)
        · rw [List.length_map, ← ho, List.length_map]
          rw [List.length_map] at hlen
          exact hlen
        · rw [← ho, List.map_map]
          exact rep_map (encP ∘ kH s.heap) backV out fun u hu => (k3 u (h2.perm.mem_iff.mp hu)).2
      · cases e
  · cases e
/-! ### sorted(set(a list of ints)) -/
def insS (x : Int) : List Int → List Int
  | [] => [x]
  | y :: ys => if x < y then x :: y :: ys else if x = y then y :: ys else y :: insS x ys
def setSort (ns : List Int) : List Int := ns.foldr insS []
theorem insS_mem (x : Int) : ∀ (l : List Int) (k : Int), k ∈ insS x l ↔ k = x ∨ k ∈ l
  | [], k => by simp [insS]
  | y :: ys, k => by
    unfold insS
    split
    · simp
    · split
      · rename_i h
        subst h
        simp
      · rw [List.mem_cons, insS_mem x ys k, List.mem_cons]
        constructor
        · rintro (h | h | h)
          · exact .inr (.inl h)
          · exact .inl h
          · exact .inr (.inr h)
        · rintro (h | h | h)
          · exact .inr (.inl h)
          · exact .inl h
          · exact .inr (.inr h)
theorem insS_sorted (x : Int) : ∀ (l : List Int), l.Pairwise (· < ·) → (insS x l).Pairwise (· < ·)
  | [], _ => by simp [insS]
  | y :: ys, h => by
    obtain ⟨h1, h2⟩ := List.pairwise_cons.mp h
    unfold insS
    split
    · rename_i hx
      refine List.pairwise_cons.mpr ⟨fun k hk => ?_, h⟩
      rcases List.mem_cons.mp hk with e | hk
      · rw [e]; exact hx
      · have := h1 k hk
        omega
    · split
      · exact h
      · refine List.pairwise_cons.mpr ⟨fun k hk => ?_, insS_sorted x ys h2⟩
        rcases (insS_mem x ys k).mp hk with e | hk
        · omega
        · exact h1 k hk
theorem setSort_mem (ns : List Int) (k : Int) : k ∈ setSort ns ↔ k ∈ ns := by
  induction ns with
  | nil => simp [setSort]
  | cons n ns ih =>
    show k ∈ insS n (setSort ns) ↔ _
    rw [insS_mem, ih, List.mem_cons]
theorem setSort_sorted (ns : List Int) : (setSort ns).Pairwise (· < ·) := by
  induction ns with
  | nil => exact List.Pairwise.nil
  | cons n ns ih => exact insS_sorted n _ ih
theorem insS_len (x : Int) : ∀ l : List Int, (insS x l).length ≤ l.length + 1
  | [] => by simp [insS]
  | y :: ys => by
    unfold insS
    split
    · simp
    · split
      · simp
      · have := insS_len x ys
        simp
        omega
theorem setSort_len (ns : List Int) : (setSort ns).length ≤ ns.length := by
  induction ns with
  | nil => simp [setSort]
  | cons n ns ih =>
    have := insS_len n (setSort ns)
    show (insS n (setSort ns)).length ≤ _
    simp
    omega
theorem strict_uniq : ∀ {l m : List Int}, l.Pairwise (· < ·) → m.Pairwise (· < ·) → (∀ k, k ∈ l ↔ k ∈ m) → l = m := fun {l m} h1 h2 h => by
  have n1 : l.Nodup := h1.imp fun {a b} h => by omega
  have n2 : m.Nodup := h2.imp fun {a b} h => by omega
  have p : l.Perm m := (List.perm_ext_iff_of_nodup n1 n2).mpr h
  exact List.Perm.eq_of_pairwise (le := fun a b : Int => a < b) (fun a b _ _ q1 q2 => by omega) h1 h2 p
end
end DL
end
section
set_option maxHeartbeats 4000000
/-! DLi: ranges, slices with a step, methods of lists, stores into lists. -/
namespace DL
open PySem PySem.Spec L2
open PyProof.Rows hiding St
section
variable {X : Cx} {T : Tab} {EE : XX} {e o i tg : Expr} {es : List Expr} {f fo fi : En → M D} {fs : En → M (List D)} {p pos : Pos}

/-! ### range(a, b, c) -/
def okR (i j c : Int) : Bool := decide (c ≠ 0) && decide (c.natAbs < 1073741824) && Builtin.Range.small i j c && decide (0 ≤ Builtin.Range.rangeSize i j c) && decide (Builtin.Range.rangeSize i j c ≤ sizeLine)
def rangeC (i j c : Int) : Option (List D) := if okR i j c = true then some ((List.range (Builtin.Range.rangeSize i j c).toNat).map fun k => D.int (i + (k : Nat) * c)) else none
def rangeA (l : List D) : Option (List D) := match l with
  | [.int j] => rangeC 0 j 1
  | [.int i, .int j] => rangeC i j 1
  | [.int i, .int j, .int c] => rangeC i j c
  | _ => none
theorem okR_iff {i j c : Int} (h : okR i j c = true) : RgC i j c (Builtin.Range.rangeSize i j c).toNat ∧ (Builtin.Range.rangeSize i j c).toNat ≤ sizeLine := by
  unfold okR at h
  simp only [Bool.and_eq_true, decide_eq_true_eq] at h
  obtain ⟨⟨⟨⟨h1, h2⟩, h3⟩, h4⟩, h5⟩ := h
  exact ⟨⟨h1, h2, h3, by omega⟩, by omega⟩
/-- a range object -/
def PRgC (X : Cx) (T : Tab) (EE : XX) (e : Expr) (fs : En → M (List D)) : Prop :=
  ∀ (pins : List (Addr × Obj)) (s : Shared) (σ : St) (H : Hp) (R : List D → Hp → Prop), Inv X pins σ H s →
    dG X.K T EE (fun _ _ (a b : List D) => a = b) (fun ρ => M.bind (fs ρ) fun l => M.opt fun _ => rangeA l) σ H R →
    wpAny (model X.prog X.w) X.A (eval e X.env) (fun x s' => ∃ r i j c t u v H', x = .ref r ∧ IsRange s'.heap r i j c t u v ∧ Inv X pins σ H' s' ∧ okR i j c = true ∧ R ((List.range (Builtin.Range.rangeSize i j c).toNat).map fun k => D.int (i + (k : Nat) * c)) H') X.xe s
theorem prgC {e : Expr} {es : List Expr} (hg : Gl X "range") (hm : X.mg "range" = none) (ha : EvA X T EE (e :: es) fs) (he : starEach (e :: es) X.env = (false, eval e X.env) :: starEach es X.env := by rfl) (hpl : (backTo pos (starEach es X.env)).any (·.1) = false := by rfl) : PRgC X T EE (.Call (.Name "range" p) (e :: es) [] pos) fs := by
  intro pins s σ H R I h
  obtain ⟨_, _, _, _, g1, g2, g3⟩ := bindD (rep := repA X.K T) h
  refine Call_ (ld_blt I hg hm boot_range (PyProof.Rows.callWith_type1 (thn (ha.pa.run pos pins s σ H _ I ⟨_, _, _, _, g1, g2, g3⟩) fun us s1 ⟨vs, H1, I1, r1, l, γ1, hid, S1, ρ, q1, q3, q4, q5⟩ => ?_) he hpl))
  obtain ⟨items, er, w5⟩ := opt_ok q5
  unfold rangeA at er
  split at er
  · unfold rangeC at er
    split at er
    · rename_i j ho
      cases er
      obtain ⟨v, rfl, k1⟩ := rep1 q4
      cases k1
      obtain ⟨u, rfl, ru⟩ := vals1 r1
      obtain ⟨t, rfl⟩ := ru
      exact call_range_1 ⟨_, 0, j, 1, _, _, _, H1, rfl, IsRange.new _ _ _ _ _ _ _, I1.kept fun b u e => Heap.get?_push_of_some _ e, ho, w5 γ1 H1 _ q1 (Ext.refl _ _ _) rfl⟩
    · cases er
  · unfold rangeC at er
    split at er
    · rename_i i j ho
      cases er
      obtain ⟨v, u, rfl, k1, k2⟩ := rep2 q4
      cases k1
      cases k2
      obtain ⟨u1, u2, rfl, ru1, ru2⟩ := vals2 r1
      obtain ⟨t, rfl⟩ := ru1
      obtain ⟨t', rfl⟩ := ru2
      exact call_range_2 ⟨_, i, j, 1, _, _, _, H1, rfl, IsRange.new _ _ _ _ _ _ _, I1.kept fun b u e => Heap.get?_push_of_some _ e, ho, w5 γ1 H1 _ q1 (Ext.refl _ _ _) rfl⟩
    · cases er
  · unfold rangeC at er
    split at er
    · rename_i i j c ho
      cases er
      cases q4 with
      | cons k1 q4 =>
        obtain ⟨v, u, rfl, k2, k3⟩ := rep2 q4
        cases k1
        cases k2
        cases k3
        cases r1 with
        | cons ru1 r1 =>
          obtain ⟨u1, u2, rfl, ru2, ru3⟩ := vals2 r1
          obtain ⟨t, rfl⟩ := ru1
          obtain ⟨t', rfl⟩ := ru2
          obtain ⟨t'', rfl⟩ := ru3
          obtain ⟨⟨c0, c1, c2, c3⟩, _⟩ := okR_iff ho
          exact call_range_3 c0 ⟨_, i, j, c, _, _, _, H1, rfl, IsRange.new _ _ _ _ _ _ _, I1.kept (t' := s1.toks) fun b u e => Heap.get?_push_of_some _ e, ho, w5 γ1 H1 _ q1 (Ext.refl _ _ _) rfl⟩ (.inl (PyProof.noPylong_small c1))
    · cases er
  · cases er
theorem vals_rgC {K : PySem.W.Frag} {γ : List Addr} {F : Hp} {i c : Int} {n : Nat} {acc : Array Value} (h : ItemsOf (fun (k : Nat) v => ∃ t, v = .int (i + k * c) t) acc n) : ∃ vs : List V, Vals vs acc.toList ∧ RpL K T γ F ((List.range n).map fun k => D.int (i + (k : Nat) * c)) vs ∧ vs.length = n := by
  have e : acc.toList.length = n := by rw [Array.length_toList]; exact h.1
  refine ⟨(List.range n).map fun k => V.int (i + (k : Nat) * c), ?_, ?_, by simp⟩
  · rw [← e]
    refine vals_of_get acc.toList _ fun j u hj => ?_
    obtain ⟨t, rfl⟩ := h.2 j u (by rw [← hj, Array.getElem?_toList])
    exact ⟨t, rfl⟩
  · exact rep_map _ _ _ fun a _ => .int _
/-- list(range(..)) -/
theorem evL_listRange (hc : X.calm = true) (hg : Gl X "list") (hm : X.mg "list" = none) (he : PRgC X T EE e fs) (na : starEach [e] X.env = (false, eval e X.env) :: starEach [] X.env := by rfl) : EvL X T EE (.Call (.Name "list" p) [e] [] pos) (fun ρ => M.bind (fs ρ) fun l => M.opt fun _ => rangeA l) := by
  refine ⟨⟨fun pins s σ H Q I h => ?_⟩⟩
  have h2 : dG X.K T EE (fun _ _ (a b : List D) => a = b) (fun ρ => M.bind (fs ρ) fun l => M.opt fun _ => rangeA l) σ H (fun l H' => ∃ γ1 hid S1, Hold X.K T γ1 hid S1 H' ∧ ∀ vs, (l.length ≤ sizeLine ∧ RpL X.K T γ1 (out γ1 S1 hid H') l vs) → ∀ q, H' q = none → Q (.ref q) (upd H' q (.lst vs))) := by
    obtain ⟨γ, hid, S, ρ, hold, env, h⟩ := h
    refine ⟨γ, hid, S, ρ, hold, env, ?_⟩
    cases eq : (M.bind (fs ρ) fun l => M.opt fun _ => rangeA l) S with
    | ok l S' =>
      have h : resG X.K T EE (repL X.K T) γ hid S H ρ σ ((M.bind (fs ρ) fun l => M.opt fun _ => rangeA l) S) _ := h
      rw [eq] at h
      refine (show resG X.K T EE (fun _ _ (a b : List D) => a = b) γ hid S H ρ σ ((M.bind (fs ρ) fun l => M.opt fun _ => rangeA l) S) _ from ?_)
      rw [eq]
      intro γ' H' b a1 a2 a3
      cases a3
      exact ⟨γ', hid, S', a1, fun vs hv => h γ' H' vs a1 a2 hv⟩
    | err x S' =>
      have h : resG X.K T EE (repL X.K T) γ hid S H ρ σ ((M.bind (fs ρ) fun l => M.opt fun _ => rangeA l) S) _ := h
      rw [eq] at h
      refine (show resG X.K T EE (fun _ _ (a b : List D) => a = b) γ hid S H ρ σ ((M.bind (fs ρ) fun l => M.opt fun _ => rangeA l) S) _ from ?_)
      rw [eq]
      exact h
    | stuck =>
      have h : resG X.K T EE (repL X.K T) γ hid S H ρ σ ((M.bind (fs ρ) fun l => M.opt fun _ => rangeA l) S) _ := h
      rw [eq] at h
      refine (show resG X.K T EE (fun _ _ (a b : List D) => a = b) γ hid S H ρ σ ((M.bind (fs ρ) fun l => M.opt fun _ => rangeA l) S) _ from ?_)
      rw [eq]
      exact h
  refine Call_ (ld_blt I hg hm boot_list (PyProof.Rows.callWith_type1 (args_cons (thn (he pins s σ H _ I h2) fun x s1 ⟨r, i, j, c, t, u, v, H1, ex, hr, I1, ok, γ1, hid, S1, q1, q⟩ => args_nil ?_) na) na))
  subst ex
  obtain ⟨⟨c0, c1, c2, c3⟩, zl⟩ := okR_iff ok
  refine call_list_range (n := (Builtin.Range.rangeSize i j c).toNat) (I1.ok.hd hc) hr c2 c3 (by rw [sizeLine_eq] at zl; exact zl) fun h' tk acc c' hk e' hi => ?_
  obtain ⟨vs, k1, k2, k3⟩ := vals_rgC (K := X.K) (T := T) (γ := γ1) (F := out γ1 S1 hid H1) hi
  refine ⟨.ref s1.heap.objs.size, upd H1 s1.heap.objs.size (.lst vs), I1.laid hk (Nat.le_refl _) (show ObjOk X.prog X.w _ _ _ (.lst vs) from ⟨by rw [k3]; exact zl, acc.toList, c', k1, ?_⟩), rfl, q vs ⟨by simpa using zl, k2⟩ _ (I1.hok.fresh (Nat.le_refl _))⟩
  rw [Array.toArray_toList]
  exact e'
def range3 (l : List D) : Option (List D) := match l with
  | [.int i, .int j, .int c] => rangeC i j c
  | _ => none
theorem ei_range3 {a b c : Expr} (hg : Gl X "range") (hm : X.mg "range" = none) (ha : EvA X T EE [a, b, c] fs)
    (hs : starEach [a, b, c] X.env = (false, eval a X.env) :: starEach [b, c] X.env := by rfl) (hpl : (backTo pos (starEach [b, c] X.env)).any (·.1) = false := by rfl) :
    EvI X T EE tg (.Call (.Name "range" p) [a, b, c] [] pos) (fun ρ => M.bind (fs ρ) fun l => M.opt fun _ => range3 l) := by
  refine ⟨(pi_range3 hg hm ha.pa hs hpl).dimp fun σ H R h => ?_⟩
  refine (show dG X.K T EE (repA X.K T) fs σ H _ from ?_)
  obtain ⟨_, _, _, _, h1, h2, h3⟩ := bindD (rep := repA X.K T) h
  refine ⟨_, _, _, _, h1, h2, h3.imp fun vs H1 ⟨l, γ1, hid, S1, ρ, q1, q3, q4, q5⟩ => ?_⟩
  obtain ⟨d, e, w5⟩ := opt_ok q5
  unfold range3 at e
  split at e
  · unfold rangeC at e
    split at e
    · rename_i ho
      cases e
      cases q4 with
      | cons k1 q4 =>
        obtain ⟨v, u, rfl, k2, k3⟩ := rep2 q4
        cases k1
        cases k2
        cases k3
        obtain ⟨r1, zl⟩ := okR_iff ho
        exact ⟨_, _, _, _, rfl, r1, w5 γ1 H1 _ q1 (Ext.refl _ _ _) (repI_rangeC _ _ _ zl)⟩
    · cases e
  · cases e

/-! ### xs[::k], k 1 or -1 -/
def sliceStepD (d k : D) (S : Cells) : Option (List D) := match k, seqL S d with
  | .int 1, some l => some l
  | .int (-1), some l => some l.reverse
  | _, _ => none
theorem evL_step {k : Expr} {fk : En → M D} {p3 : Pos} (he : EvE X T EE e f) (hk : EvE X T EE k fk) (hsub : ∀ o i, subscripted (.Slice none none (some k) p3) false o i = operate [o, i] (getItem o i) := by intro _ _; with_unfolding_all rfl) :
    EvL X T EE (.Subscript e (.Slice none none (some k) p3) pos) (fun ρ => M.bind (f ρ) fun d => M.bind (fk ρ) fun y => M.opt (sliceStepD d y)) := by
  refine ⟨⟨fun pins s σ H Q I h => ?_⟩⟩
  obtain ⟨γ, hid, S, ρ, hold, env, h⟩ := h
  have g := bindR (rep := repE X.K T) hold env h
  refine Subscript_ (thn (he.pe.run pins s σ H _ I g) fun v s1 ⟨x, H1, I1, r1, d1, γ1, S1, q1, q2, q3, q4, q5⟩ => ?_)
  have hst : PO X (some k) (tPart (dE X.K T EE fk)) := po_some hk.pe
  refine wpAny_Slice (thn (po_none.run pins s1 σ H1 (fun o H2 => o = none ∧ H2 = H1) I1 ⟨rfl, rfl⟩) fun vl s2 ⟨l, H2, I2, pl, el, e2⟩ => ?_)
  subst el e2
  refine thn (po_none.run pins s2 σ H2 (fun o H3 => o = none ∧ H3 = H2) I2 ⟨rfl, rfl⟩) fun vu s3 ⟨u, H3, I3, pu, eu, e3⟩ => ?_
  subst eu e3
  have g2 := bindR (rep := repE X.K T) q1 q3 q5
  have g3 : tPart (dE X.K T EE fk) σ H3 (fun o H4 => ∃ k l γ2 S2 a vs, o = some (k : Int) ∧ Hold X.K T γ2 hid S2 H4 ∧ x = .ref a ∧ SqL X.K H4 a vs ∧ l.length ≤ sizeLine ∧ RpL X.K T γ2 (out γ2 S2 hid H4) l vs ∧
      ((k = 1 ∧ okL X.K T γ2 hid S2 H4 l S2 Q) ∨ (k = -1 ∧ okL X.K T γ2 hid S2 H4 l.reverse S2 Q))) := by
    refine (show dG X.K T EE (repE X.K T) fk σ H3 _ from ?_)
    obtain ⟨γ', hid', S', ρ', h1, h2, h3⟩ := g2
    refine ⟨γ', hid', S', ρ', h1, h2, h3.imp fun y H4 ⟨d2, γ2, S2, w1, w2, w3, w4, w5⟩ => ?_⟩
    obtain ⟨l, er, w6⟩ := opt_ok w5
    have w7 : okL X.K T γ2 hid S2 H4 l S2 Q := fun γ' H' vs a1 a2 z a3 => w6 γ' H' vs a1 a2 ⟨z, a3⟩
    have q4' := w2.rp q4
    unfold sliceStepD at er
    split at er
    · rename_i l0 el
      cases er
      cases w4
      obtain ⟨a, vs, rfl, s1, z, g⟩ := seqL_ok w1 q4' el
      exact ⟨1, rfl, 1, l, γ2, S2, a, vs, rfl, w1, rfl, s1, z, g, .inl ⟨rfl, w7⟩⟩
    · rename_i l0 el
      cases er
      cases w4
      obtain ⟨a, vs, rfl, s1, z, g⟩ := seqL_ok w1 q4' el
      exact ⟨-1, rfl, -1, _, γ2, S2, a, vs, rfl, w1, rfl, s1, z, g, .inr ⟨rfl, w7⟩⟩
    · cases er
  refine thn (hst.run pins s3 σ H3 _ I3 g3) fun vs s4 ⟨o, H4, I4, ps, kk, l, γ2, S2, a, ws, eo, w1, ex, s1, z, g, fin⟩ => ?_
  subst eo ex
  cases r1
  have I5 : Inv X pins σ H4 { s4 with heap := s4.heap.push { cls := .type "slice", data := .fields #[vl, vu, vs] } } := I4.kept (t' := s4.toks) fun b ob q => Heap.get?_push_of_some _ q
  obtain ⟨its, r, ht, hz⟩ := I5.list s1
  have hlen := r.length
  show wpAny (model X.prog X.w) X.A (subscriptTail e (.Slice none none (some k) p3) (.ref a) (.ref s4.heap.objs.size)) (EP X pins σ Q) X.xe { s4 with heap := s4.heap.push { cls := .type "slice", data := .fields #[vl, vu, vs] } }
  refine tail_any (ops := [.ref a, .ref s4.heap.objs.size]) ht.isList.typeIs (PySem.slot_list_getitem.lookup) ?_ (hsub _ _)
  rcases fin with ⟨rfl, fin⟩ | ⟨rfl, fin⟩
  · refine wpAny_getItem_list_slice ht.isList (Heap.IsSliceOf.new _ vl vu vs) pl pu ps (by decide) ?_ (by rw [List.size_toArray]; omega)
    have pick1 : slicePick its.toArray none none (some 1) = its.toArray := by
      show slicePick its.toArray none none none = its.toArray
      rw [slicePick_cut]
      simp [HT.sIx_none]
    rw [pick1]
    refine ⟨.ref _, _, I5.laid (t' := s4.toks) (o := .lst ws) (fun b ob q => Heap.get?_push_of_some _ q) (Nat.le_refl _) ?_, rfl, fin.lst w1 z g _ (I5.hok.fresh (Nat.le_refl _))⟩
    exact ⟨hz, _, 0, r, Heap.get?_push_size _ rfl⟩
  · refine wpAny_getItem_list_slice ht.isList (Heap.IsSliceOf.new _ vl vu vs) pl pu ps (by decide) ?_ (by rw [List.size_toArray]; omega)
    rw [PySem.W.krv_pick]
    refine ⟨.ref _, _, I5.laid (t' := s4.toks) (o := .lst ws.reverse) (fun b ob q => Heap.get?_push_of_some _ q) (Nat.le_refl _) ?_, rfl, fin.lst w1 (by rw [List.length_reverse]; exact z) g.reverse _ (I5.hok.fresh (Nat.le_refl _))⟩
    exact ⟨by rw [List.length_reverse]; exact hz, _, 0, r.reverse, Heap.get?_push_size _ rfl⟩

/-! ### methods -/
def rMt (K : PySem.W.Frag) (T : Tab) (op : D → List D → Cells → Option (D × Cells)) : V → List V → Hp → VK → Prop := fun x vs H Q => ∃ γ hid S d ds d' S', Hold K T γ hid S H ∧ Rp K T γ (out γ S hid H) d x ∧ RpL K T γ (out γ S hid H) ds vs ∧ op d ds S = some (d', S') ∧ okV K T γ hid S H d' S' Q
/-- the receiver is of that class -/
def isTy (tn : String) (d : D) (S : Cells) : Option Unit := match d with
  | .str _ => if tn = "str" then some () else none
  | .int _ => if tn = "int" then some () else none
  | d => if tn = "list" ∧ (seqL S d).isSome = true then some () else none
theorem isTy_ok {K : PySem.W.Frag} {γ hid : List Addr} {S : Cells} {H : Hp} {tn : String} (h : Hold K T γ hid S H) {d : D} {v : V} (r : Rp K T γ (out γ S hid H) d v) (e : isTy tn d S = some ()) : tyV K tn v H := by
  unfold isTy at e
  split at e
  · cases r
    split at e
    · assumption
    · cases e
  · cases r
    split at e
    · assumption
    · cases e
  · split at e
    · rename_i hz
      cases q : seqL S d with
      | none => rw [q] at hz; cases hz.2
      | some l =>
        obtain ⟨a, vs, rfl, s1, _, _⟩ := seqL_ok h r q
        exact .inl ⟨hz.1, vs, s1⟩
    · cases e
theorem chg_ok {K : PySem.W.Frag} {α β : Type} {rep : List Addr → Hp → α → β → Prop} {γ hid : List Addr} {S : Cells} {H : Hp} {ρ : En} {σ : St} {Q : β → Hp → Prop} {f : Cells → Option (α × Cells)} (h : resG K T EE rep γ hid S H ρ σ (M.chg f S) Q) : ∃ a S', f S = some (a, S') ∧ resG K T EE rep γ hid S H ρ σ (.ok a S') Q := by
  unfold M.chg at h
  split at h
  · rename_i a S' e
    exact ⟨a, S', e, h⟩
  · exact h.elim
variable {name : Str} {apos cpos : Pos} {tn id : String} {op : D → List D → Cells → Option (D × Cells)}
theorem ev_meth (pa : PlainAttrs tn) (slot : Slot tn name id) (hty : typeOf (.builtin id) = pure (.type "method_descriptor")) (hm : MtR X id (rMt X.K T op)) (ho : EvE X T EE o fo) (ha : EvA X T EE (e :: es) fs)
    (hbase : attributeBase o name X.env (eval o X.env) = eval o X.env := by rfl)
    (hfew : ((backTo cpos (starEach (e :: es) X.env)).all (fun x => !x.1) && (backToKw cpos (keywordEach [] X.env)).all (fun x => x.1.isSome)
      && decide ((e :: es).length + ([] : List Keyword).length + (if ([] : List Keyword).isEmpty then 0 else 1) < 30)) = true := by rfl)
    (hline : (apos.endLine == cpos.line) = true := by rfl) (hs : starEach (e :: es) X.env = (false, eval e X.env) :: starEach es X.env := by rfl) (hplain : (backTo cpos (starEach es X.env)).any (·.1) = false := by rfl) :
    EvE X T EE (.Call (.Attribute o name apos) (e :: es) [] cpos) (fun ρ => M.bind (fo ρ) fun d => M.bind (M.opt (isTy tn d)) fun _ => M.bind (fs ρ) fun ds => M.chg (op d ds)) := by
  refine ⟨(pe_bm pa slot hty hm ho.pe ha.pa hbase hfew hline hs hplain).dimp fun σ H Q h => ?_⟩
  refine (show dG X.K T EE (repE X.K T) fo σ H _ from ?_)
  obtain ⟨γ, hid, S, ρ, hold, env, h⟩ := h
  obtain ⟨_, _, _, _, h1, h2, h3⟩ := bindR (rep := repE X.K T) hold env h
  refine ⟨_, _, _, _, h1, h2, h3.imp fun x H1 ⟨d1, γ1, S1, q1, q2, q3, q4, q5⟩ => ?_⟩
  cases et : isTy tn d1 S1 with
  | none =>
    rw [bind_of_stuck (opt_none et)] at q5
    exact q5.elim
  | some u =>
    rw [bind_of_ok (opt_some et)] at q5
    refine ⟨isTy_ok q1 q4 et, ?_⟩
    obtain ⟨_, _, _, _, h1, h2, h3⟩ := bindR (rep := repA X.K T) q1 q3 q5
    refine ⟨_, _, _, _, h1, h2, h3.imp fun vs H2 ⟨ds, γ2, S2, w1, w2, w3, w4, w5⟩ => ?_⟩
    obtain ⟨d', S', e, w5⟩ := chg_ok w5
    exact ⟨γ2, hid, S2, d1, ds, d', S', w1, w2.rp q4, w4, e, w5⟩
theorem ev_meth0 (pa : PlainAttrs tn) (slot : Slot tn name id) (hty : typeOf (.builtin id) = pure (.type "method_descriptor")) (hm : MtR X id (rMt X.K T op)) (ho : EvE X T EE o fo)
    (hbase : attributeBase o name X.env (eval o X.env) = eval o X.env := by rfl) (hline : (apos.endLine == cpos.line) = true := by rfl) :
    EvE X T EE (.Call (.Attribute o name apos) [] [] cpos) (fun ρ => M.bind (fo ρ) fun d => M.bind (M.opt (isTy tn d)) fun _ => M.chg (op d [])) := by
  refine ⟨(pe_bm0 pa slot hty hm ho.pe hbase hline).dimp fun σ H Q h => ?_⟩
  refine (show dG X.K T EE (repE X.K T) fo σ H _ from ?_)
  obtain ⟨_, _, _, _, h1, h2, h3⟩ := bindD (rep := repE X.K T) h
  refine ⟨_, _, _, _, h1, h2, h3.imp fun x H1 ⟨d1, γ1, hid, S1, ρ, q1, q3, q4, q5⟩ => ?_⟩
  cases et : isTy tn d1 S1 with
  | none =>
    rw [bind_of_stuck (opt_none et)] at q5
    exact q5.elim
  | some u =>
    rw [bind_of_ok (opt_some et)] at q5
    refine ⟨isTy_ok q1 q4 et, ?_⟩
    obtain ⟨d', S', e, w5⟩ := chg_ok q5
    exact ⟨γ1, hid, S1, d1, [], d', S', q1, q4, .nil, e, w5⟩
/-- a live list -/
def liveL (d : D) (S : Cells) : Option (Nat × List D) := match d with
  | .ref n => match S[n]? with
    | some ⟨true, .lst l⟩ => some (n, l)
    | _ => none
  | _ => none
theorem liveL_ok {K : PySem.W.Frag} {γ hid : List Addr} {S : Cells} {H : Hp} (h : Hold K T γ hid S H) {d : D} {v : V} {n : Nat} {l : List D} (r : Rp K T γ (out γ S hid H) d v) (e : liveL d S = some (n, l)) :
    ∃ a vs, v = .ref a ∧ H a = some (.lst vs) ∧ l.length ≤ sizeLine ∧ RpL K T [] (out γ S hid H) l vs ∧
      ∀ (l' : List D) (vs' : List V) (d' : D) (v' : V) (Q : VK), l'.length ≤ sizeLine → RpL K T [] (out γ S hid H) l' vs' → Rp K T [] (out γ S hid H) d' v' → okV K T γ hid S H d' (S.set n ⟨true, .lst l'⟩) Q → Q v' (upd H a (.lst vs')) := by
  unfold liveL at e
  split at e
  · split at e
    · rename_i q
      cases e
      cases r with
      | ref a =>
        obtain ⟨vs, h1, z, h2⟩ := h.list a q
        refine ⟨_, vs, rfl, h1, z, h2, fun l' vs' d' v' Q z' r' rd fin => ?_⟩
        obtain ⟨a1, a2⟩ := h.write a q (.lst z' r')
        exact fin γ _ v' a1 a2 (Rp.nil_any (a2.sameH hid) rd)
    · cases e
  · cases e
def mAppend (d : D) (ds : List D) (S : Cells) : Option (D × Cells) := match ds, liveL d S with
  | [x], some (n, l) => if x.flat = true ∧ l.length < sizeLine then some (.non, S.set n ⟨true, .lst (l ++ [x])⟩) else none
  | _, _ => none
theorem mt_mAppend : MtR X "list.append" (rMt X.K T mAppend) := by
  intro pins s σ H x vs v us Q I rx rv h
  refine mt_append pins s σ H x vs v us Q I rx rv ?_
  obtain ⟨γ, hid, S, d, ds, d', S', hold, r1, r2, e, q⟩ := h
  unfold mAppend at e
  split at e
  · rename_i y n l el
    split at e
    · rename_i hz
      cases e
      obtain ⟨w, rfl, ry⟩ := rep1 r2
      obtain ⟨a, ws, rfl, h1, z, g, fin⟩ := liveL_ok hold r1 el
      refine ⟨a, ws, w, rfl, rfl, h1, by rw [← g.length]; exact hz.2, fin _ _ .non .non Q ?_ (g.append (.one (Rp.toflat _ _ hz.1 ry))) .non q⟩
      rw [List.length_append]
      have := hz.2
      simp only [List.length_singleton]
      omega
    · cases e
  · cases e
def mInsert (d : D) (ds : List D) (S : Cells) : Option (D × Cells) := match ds, liveL d S with
  | [.int i, x], some (n, l) => if x.flat = true ∧ l.length < sizeLine ∧ 0 ≤ i ∧ i < 2 ^ 63 then some (.non, S.set n ⟨true, .lst (l.take i.toNat ++ [x] ++ l.drop i.toNat)⟩) else none
  | _, _ => none
theorem mt_mInsert : MtR X "list.insert" (rMt X.K T mInsert) := by
  intro pins s σ H x vs v us Q I rx rv h
  refine mt_insert pins s σ H x vs v us Q I rx rv ?_
  obtain ⟨γ, hid, S, d, ds, d', S', hold, r1, r2, e, q⟩ := h
  unfold mInsert at e
  split at e
  · rename_i i y n l el
    split at e
    · rename_i hz
      cases e
      obtain ⟨w0, w, rfl, r0, ry⟩ := rep2 r2
      cases r0
      obtain ⟨a, ws, rfl, h1, z, g, fin⟩ := liveL_ok hold r1 el
      refine ⟨a, ws, i, w, rfl, rfl, h1, by rw [← g.length]; exact hz.2.1, hz.2.2.1, hz.2.2.2, fin _ _ .non .non Q ?_ (((g.take i.toNat).append (.one (Rp.toflat _ _ hz.1 ry))).append (g.drop i.toNat)) .non q⟩
      rw [List.length_append, List.length_append, List.length_take, List.length_drop]
      have := hz.2.1
      simp only [List.length_singleton]
      omega
    · cases e
  · cases e
def mPop (d : D) (ds : List D) (S : Cells) : Option (D × Cells) := match ds, liveL d S with
  | [], some (n, l) => match l[l.length - 1]? with
    | some y => some (y, S.set n ⟨true, .lst l.dropLast⟩)
    | none => none
  | _, _ => none
def mPopAt (d : D) (ds : List D) (S : Cells) : Option (D × Cells) := match ds, liveL d S with
  | [.int i], some (n, l) => if -(2 ^ 63) ≤ i ∧ i < 2 ^ 63 then match ixN l.length i with
    | some k => match l[k]? with
      | some y => some (y, S.set n ⟨true, .lst (l.eraseIdx k)⟩)
      | none => none
    | none => none else none
  | _, _ => none
theorem RpL.dropLast {K : PySem.W.Frag} {γ : List Addr} {F : Hp} {l : List D} {vs : List V} (r : RpL K T γ F l vs) : RpL K T γ F l.dropLast vs.dropLast := by
  rw [List.dropLast_eq_take, List.dropLast_eq_take, r.length]
  exact r.take _
theorem mt_mPop : MtR X "list.pop" (rMt X.K T mPop) := by
  intro pins s σ H x vs v us Q I rx rv h
  refine mt_pop pins s σ H x vs v us Q I rx rv ?_
  obtain ⟨γ, hid, S, d, ds, d', S', hold, r1, r2, e, q⟩ := h
  unfold mPop at e
  split at e
  · rename_i n l el
    split at e
    · rename_i y ey
      cases e
      cases r2
      obtain ⟨a, ws, rfl, h1, z, g, fin⟩ := liveL_ok hold r1 el
      obtain ⟨w, ew, ry⟩ := g.get ey
      rw [g.length] at ew
      exact ⟨a, ws, w, rfl, rfl, h1, ew, fin _ _ _ _ Q (by rw [List.length_dropLast]; omega) g.dropLast ry q⟩
    · cases e
  · cases e
theorem mt_mPopAt : MtR X "list.pop" (rMt X.K T mPopAt) := by
  intro pins s σ H x vs v us Q I rx rv h
  refine mt_popAt pins s σ H x vs v us Q I rx rv ?_
  obtain ⟨γ, hid, S, d, ds, d', S', hold, r1, r2, e, q⟩ := h
  unfold mPopAt at e
  split at e
  · rename_i i n l el
    split at e
    · rename_i hi
      split at e
      · rename_i k ek
        split at e
        · rename_i y ey
          cases e
          obtain ⟨w0, rfl, r0⟩ := rep1 r2
          cases r0
          obtain ⟨a, ws, rfl, h1, z, g, fin⟩ := liveL_ok hold r1 el
          obtain ⟨w, ew, ry⟩ := g.get ey
          rw [g.length] at ek
          exact ⟨a, ws, i, k, w, rfl, rfl, h1, hi.1, hi.2, (ixN_seq ek).1, ew, fin _ _ _ _ Q (Nat.le_trans (len_erase _ _) z) (g.eraseIdx k) ry q⟩
        · cases e
      · cases e
    · cases e
  · cases e

/-! ### xs[i] = e -/
def setAtD (d i y : D) (S : Cells) : Option Cells := match i, liveL d S with
  | .int k, some (n, l) => match ixN l.length k with
    | some j => if y.flat = true then some (S.set n ⟨true, .lst (l.set j y)⟩) else none
    | none => none
  | _, _ => none
theorem es_store (he : EvE X T EE e f) (ho : EvE X T EE o fo) (hi : EvE X T EE i fi) (hs : swapsWithSole [.Subscript o i p] e pos.line X.env = pure false := by rfl) (hw : swappedStores [.Subscript o i p] e X.env = pure none := by rfl)
    (h1 : (assignEach [.Subscript o i p] X.env).map (·.2) = [assign (.Subscript o i p) X.env] := by rfl)
    (ha : ∀ v, assign (.Subscript o i p) X.env v = (do
      let ov ← holding [v] (eval o X.env)
      let iv ← holding [v, ov] (eval i X.env)
      standAt p
      holding [v, ov, iv] (setItem ov iv v)
      release [v, ov, iv] []) := by intro _; rfl) : EvS X T EE (.Assign [.Subscript o i p] e pos) (bindS f fun y => bindS fo fun d => bindS fi fun k ρ S => match setAtD d k y S with
      | some S' => .nx ρ S'
      | none => .stuck) := by
  refine ⟨(ps_asg he.pe (pg_sub ho.pe hi.pe set_list ha) hs hw h1).dimp fun Dn σ H h => ?_⟩
  refine (show dG X.K T EE (repE X.K T) f σ H _ from ?_)
  obtain ⟨γ, hid, S, ρ, hold, env, h⟩ := h
  obtain ⟨_, _, _, _, h1, h2, h3⟩ := bindSR (rep := repE X.K T) hold env h
  refine ⟨_, _, _, _, h1, h2, h3.imp fun vy H1 ⟨y, γ1, S1, q1, q2, q3, q4, q5⟩ => ?_⟩
  refine (show dG X.K T EE (repE X.K T) fo σ H1 _ from ?_)
  obtain ⟨_, _, _, _, h1, h2, h3⟩ := bindSR (rep := repE X.K T) q1 q3 q5
  refine ⟨_, _, _, _, h1, h2, h3.imp fun vo H2 ⟨d, γ2, S2, w1, w2, w3, w4, w5⟩ => ?_⟩
  refine (show dG X.K T EE (repE X.K T) fi σ H2 _ from ?_)
  obtain ⟨_, _, _, _, h1, h2, h3⟩ := bindSR (rep := repE X.K T) w1 w3 w5
  refine ⟨_, _, _, _, h1, h2, h3.imp fun vi H3 ⟨k, γ3, S3, u1, u2, u3, u4, u5⟩ => ?_⟩
  cases es : setAtD d k y S3 with
  | none =>
    simp only [es] at u5
    exact u5.elim
  | some S' =>
    simp only [es] at u5
    unfold setAtD at es
    split at es
    · rename_i kk n l el
      split at es
      · rename_i j ej
        split at es
        · rename_i hf
          cases es
          cases u4
          obtain ⟨a, ws, rfl, g1, z, g, fin⟩ := liveL_ok u1 (u2.rp w4) el
          rw [g.length] at ej
          have ry := Rp.toflat _ _ hf (u2.rp (w2.rp q4))
          refine ⟨a, ws, kk, j, rfl, rfl, g1, ej, ?_⟩
          exact fin (l.set j y) (ws.set j vy) .non .non (fun _ H' => Dn.nx σ H') (by rw [List.length_set]; exact z) (g.set ry j) .non fun γ' H' v b1 b2 b3 => u5 γ' H' σ b1 b2 (u3.mono b2.pre (b2.sameH hid))
        · cases es
      · cases es
    · cases es
end
end DL
end
section
set_option maxHeartbeats 2000000
/-! DLz: the law's own end, for defs whose promise wants that no repr is under way. -/
namespace DL
open PySem PySem.Spec L2
open PyProof.Rows hiding St

/-- the law's promise, at the heap behind the top -/
theorem law_callG {P : Program} {w : World} {K : PySem.W.Frag} {mg mb : Str → Option Value} {k : Nat} {fa a : Addr} {fd : FuncData} {x : Str} {sp : Sp} {t : Shared} {vs : List Value} {ns : List Int}
    (KX : K.In t.heap) (hns : t.heap.Ns mainGlobals mg) (hb : t.heap.Ns builtinsNs mb) (hbb : ∀ x : Str, x ≠ "__name__" → mb x = bootBuiltins x) (hlim : t.heap.NoLimit) (hg : t.gens = #[])
    (ha : t.heap.get? a = some { cls := .type "list", data := .seq vs.toArray }) (hi : IntsAre vs ns) (hl : ns.length ≤ sizeLine) (hr : Room k callerA)
    (F : ∀ base : Heap, K.In base → base.Ns mainGlobals mg → FnG P w K mg base k fa fd [x] sp) (hbind : ∀ (s : Shared) (u : Value), BindsTo s fd ⟨[u], []⟩ [(x, u)])
    (hsp : ∀ H : Hp, Only H → SqL K H a (ns.map V.int) → sp [.ref a] H (fun v _ => v = .bl true) fun _ _ _ => False) :
    codeAny (model P w) callerA (.call (.ref fa) ⟨[.ref a], []⟩) (fun r t' => r = .ok (.ret (.bool true)) ∧ OldK t.heap t'.heap ∧ t'.os = t.os ∧ AllBare t'.gens) t := by
  have rv := vals_ints hi
  have len := hi.length
  have core : ∀ H : Hp, Only H → SqL K H a (ns.map V.int) → HOk P w H t.heap → (∀ b, H b ≠ none → b = a) → (H a ≠ none → K.lookup a = none) →
      codeAny (model P w) callerA (.call (.ref fa) ⟨[.ref a], []⟩) (fun r t' => r = .ok (.ret (.bool true)) ∧ OldK t.heap t'.heap ∧ t'.os = t.os ∧ AllBare t'.gens) t := by
    intro H only sq hok one kn
    have isA : ∀ {b : Addr}, H b ≠ none → b = a := fun q => one _ q
    have nod : ∀ {b : Addr} {o : Obj} {es : Array DictEntry} {ep : Nat}, t.heap.get? b = some o → o.data = .dict es ep → H b = none := fun {b o es ep} e d => by
      cases q : H b with
      | none => rfl
      | some u =>
        have z := isA (b := b) (by rw [q]; simp)
        subst z
        rw [ha] at e
        cases e
        have d2 : Data.seq vs.toArray _ = Data.dict es ep := d
        cases d2
    have nsK : ∀ {b : Addr} {m : Str → Option Value}, t.heap.Ns b m → (hidT t.heap H).Ns b m := fun {b m} ⟨o, es, ep, e, d, r⟩ => ⟨o, es, ep, hidT_get e (nod e d), d, r⟩
    have kin : K.In (hidT t.heap H) := fun b o e => hidT_get (KX b o e) (by
      cases q : H b with
      | none => rfl
      | some u =>
        have z := isA (b := b) (by rw [q]; simp)
        subst z
        rw [kn (by rw [q]; simp)] at e
        cases e)
    have hm : Mod K mg (hidT t.heap H) := ⟨kin, nsK hns, ⟨mb, nsK hb, hbb⟩, let ⟨m, p, q⟩ := hlim; ⟨m, nsK p, q⟩⟩
    have e0 : Env0 P w K mg (hidT t.heap H) callerA [] t H := ⟨rfl, hm, fun b o e => of_hidT e, Nat.le_of_eq (hidT_size _ _), trivial, fun b hb => absurd (show b ∈ ([] : List Addr) from hb) (by simp), hok, .of_eq hg⟩
    refine codeAny_mono ((F _ kin (nsK hns)).run callerA [] t H ⟨[.ref a], []⟩ [.ref a] [.ref a] _ _ hr rfl e0 (hbind t (.ref a)) (.cons rfl .nil) (hsp H only sq)) fun r t' h => ?_
    cases r with
    | error e => exact False.elim h
    | ok fl =>
      cases fl with
      | next => exact False.elim h
      | brk => exact False.elim h
      | cont => exact False.elim h
      | ret u =>
        obtain ⟨v, H', os, bare, un, hok', r', q⟩ := h
        have q2 : v = .bl true := q
        subst q2
        obtain rfl : u = Value.bool true := r'
        refine ⟨rfl, OldK.of_keep fun b o e => ?_, os, bare⟩
        cases q : H b with
        | none => exact un.keep b o e q (by intro z; exact absurd (show b ∈ ([] : List Addr) from z) (by simp)) (by simp)
        | some u =>
          rcases only b with z | ⟨ob, xs, z⟩
          · rw [q] at z
            cases z
          · obtain ⟨e1, _⟩ := hok b _ z
            obtain ⟨e2, _⟩ := hok' b _ (un.frzs b ob _ z)
            rw [e] at e1
            cases e1
            exact e2
  cases hk : K.lookup a with
  | some o =>
    have e := KX a o hk
    rw [ha] at e
    cases e
    exact core (fun _ => none) (fun _ => .inl rfl) (.inr ⟨_, vs.toArray, _, hk, rfl, rfl, rfl, by rw [List.size_toArray, len]; exact hl, by simpa using rv⟩) (fun b u z => by have z2 : (none : Option HO) = some u := z; cases z2) (fun b z => absurd rfl z) fun z => absurd rfl z
  | none =>
    refine core (fun b => if b = a then some (.frz { cls := .type "list", data := .seq vs.toArray } (.lst (ns.map V.int))) else none) (fun b => ?_) (.inl (.inr ⟨{ cls := .type "list", data := .seq vs.toArray }, if_pos rfl⟩)) (fun b u z => ?_) (fun b z => ?_) fun _ => hk
    · by_cases hb : b = a
      · exact .inr ⟨_, _, if_pos hb⟩
      · exact .inl (if_neg hb)
    · by_cases hb : b = a
      · have z2 := (if_pos hb).symm.trans z
        cases z2
        subst hb
        exact ⟨ha, by rw [List.length_map]; exact hl, vs, _, rv, ha⟩
      · have z2 := (if_neg hb).symm.trans z
        cases z2
    · by_cases hb : b = a
      · exact hb
      · exact absurd (if_neg hb) z
/-- what k_head leaves, from the law's reading -/
theorem walk_D {l : PySem.W.OpenLaw} {n k : Nat} {q : Program} {loose : List Str} {XP : (Str → Option Value) → Heap → Prop} {YP : World → Heap → Prop} {d : DefRec} {g : List D → M D} {x : Str}
    (hn : l.most = some n) (hn2 : n ≤ sizeLine) (hdf : d.params.defaults = []) (hr : Room k callerA)
    (F : ∀ (w : World) (mg : Str → Option Value) (fa : Addr) (h : Heap), YP w h → h.Ns mainGlobals mg → mg d.name = some (.ref fa) →
      ∃ (K : PySem.W.Frag) (fd : FuncData) (T : Tab), K.In h ∧ (∀ (s : Shared) (u : Value), BindsTo s fd ⟨[u], []⟩ [(x, u)]) ∧
        ∀ base : Heap, K.In base → base.Ns mainGlobals mg → FnG l.prog w K mg base k fa fd [x] (spD K T 1 g))
    (law : ∀ ns : List Int, ns.length ≤ n → ∃ S, g [.lst (ns.map .int)] [] = .ok (.bl true) S) :
    PySem.W.WalkO q loose XP YP l.row.toRowW d [] (fun f vs => PySem.call f vs) := by
  refine Att.attach_call hn hdf fun w t0 t mg mb fa o pm cd doc a vs ns G Y ho hd hcd hmg hobj hints hlen hg => ?_
  obtain ⟨K, fd, T, KX, hb, hF⟩ := F w mg fa _ Y G.T.g hmg
  refine law_callG KX G.T.g G.T.b G.T.builtins G.T.nolimit hg hobj hints (Nat.le_trans hlen hn2) hr hF hb fun H only sq => ?_
  obtain ⟨S, e⟩ := law ns hlen
  refine ⟨[], [], [], [.lst (ns.map .int)], ⟨rfl, List.nodup_nil, fun n a c e => by simp at e, fun a h => by simp at h, fun a h => by simp at h⟩, .cons (.lst ?_ (by rw [List.length_map]; exact Nat.le_trans hlen hn2) (rep_ints ns)) .nil, rfl, _, S, e, fun γ' H' v _ _ r => ?_⟩
  · have e : out [] [] [] H = H := by
      funext b
      unfold out liveAt
      simp
    rw [e]
    exact sq
  · cases r
    rfl
end DL
end
section
set_option maxHeartbeats 8000000
/-! DLh: set(a list of ints) and sorted of it, at any length. -/
namespace DL
open PySem PySem.Spec L2
open PyProof.Rows hiding St
section
variable {P : Program} {w : World} {A : Around} {E : Value → Shared → Prop} {s : Shared}
/-- the empty set's object, as set() lays it -/
abbrev set0 (w : World) : Obj := { cls := .type "set", dict := none, data := .set #[] 0 (.fresh 0 0 (!w.params.followText "set-order")) }
theorem set_of_list {l : Addr} {items : Array Value} (ns : List Int) {Q : Value → Shared → Prop} (hh : A.handled = none) (hl : s.heap.IsList l items) (hit : IntsAre items.toList ns) (hb : ns.length + 1 < scanBound)
    (fin : ∀ (g : Heap) (tk c : Nat), SetR w g s.heap.objs.size (fun j => decide (j ∈ ns)) c → c ≤ ns.length → (∀ b o, s.heap.get? b = some o → g.get? b = some o) → Q (.ref s.heap.objs.size) { s with heap := g, toks := tk }) :
    wpAny (model P w) A (call (.type "set") [.ref l]) Q E s := by
  have isz : items.size = ns.length := by
    rw [← IntsAre.length hit, Array.length_toList]
  obtain ⟨c0, tl0, mro0⟩ := F.called_set.mro
  have made0 := F.called_set.made
  have sub0 := F.called_set.sub
  refine wpAny_call (codeAny_of_tree ?_)
  show wpAny _ _ (callAny (.type "set") _) _ _ _
  refine wpAny_pure ⟨Code.quiet_builtin _ (by decide +kernel), codeAny_builtin F.entry_type_call ?_⟩
  rw [Around.under_plain (weight_type_call_type "set" [.ref l] []) rfl]
  have nt := F.called_set.notType
  have cc := F.called_set.canCreate
  have tc := F.typeCall_set_1 (.ref l)
  repeat (any_goals (first | assumption | wp_step))
  refine codeAny_mono (code_set_led1 (.ref l) (E := E) (Q₁ := fun obj t => obj = .ref s.heap.objs.size ∧ t = { s with heap := s.heap.push (set0 w) }) ⟨rfl, rfl⟩) fun r t hr => ?_
  cases r with
  | error e => exact hr
  | ok flow =>
    cases flow with
    | ret obj =>
      obtain ⟨rfl, rfl⟩ := hr
      have at0 : (s.heap.push (set0 w)).get? s.heap.objs.size = some (set0 w) := Heap.get?_push_size _ rfl
      have ty0 : Shared.TypeIs { s with heap := s.heap.push (set0 w) } (.ref s.heap.objs.size) "set" := ⟨_, at0, rfl⟩
      have li := F.called_set.init.lookup
      have bi := F.called_set.init.bind (.ref s.heap.objs.size)
      repeat (any_goals (first | assumption | wp_step))
      refine codeAny_mono (codeAny_call_builtin (R := wants (fun r s2 => r = .none ∧ ∃ g tk c, s2 = { s with heap := g, toks := tk } ∧ SetR w g s.heap.objs.size (fun j => decide (j ∈ ns)) c ∧ c ≤ ns.length ∧
          (∀ b o, s.heap.get? b = some o → g.get? b = some o)) E) F.called_set.init.plain F.entry_set_init (check_set_init_1 ty0 ?_)) fun r2 s2 hr2 => ?_
      · obtain ⟨⟨kcls, kdict, kdata, kslots⟩, hol, hcl, nl, hdl⟩ := hl
        simp only at hcl hdl
        subst hcl; subst hdl
        have hol1 : (s.heap.push (set0 w)).get? l = some { cls := .type "list", dict := kdict, data := .seq items nl, slots := kslots } := Heap.get?_push_of_some _ hol
        have s1 := F.sub_list_set
        have s2 := F.sub_list_frozenset
        have ne0 : (Value.type "list" == Value.type "dict") = false := by decide
        have il : (s.heap.push (set0 w)).IsList l items := ⟨_, hol1, rfl, nl, rfl⟩
        unfold Builtin.«set.__init__» noKeywords Builtin.Frozenset.updateFrom
        generalize hPI : pyIter = PI
        wp_walk
        subst hPI
        refine wpAny_pyIter_list il ?_
        refine wpAny_bind (wpAny_runValue ?_)
        have lS : l < s.heap.objs.size := Heap.lt_size hol
        have h3 : A.in1.in1.in1.handled = none := by simp [hh]
        have neI : l ≠ (s.heap.push (set0 w)).objs.size := by
          rw [Heap.size_push]
          exact Nat.ne_of_lt (Nat.lt_succ_of_lt lS)
        have nf : s.heap.objs.size ∉ [(s.heap.push (set0 w)).objs.size, l] := by
          rw [Heap.size_push]
          simp only [List.mem_cons, List.mem_singleton, List.not_mem_nil, or_false, not_or]
          exact ⟨Nat.ne_of_lt (Nat.lt_succ_self _), Nat.ne_of_gt lS⟩
        have val : ∀ (i : Nat) (v : Value), items[i]? = some v → ∃ k t, ns[i]? = some k ∧ v = .int k t := fun i v hv => by
          have hi : i < ns.length := by
            rw [← isz]
            exact (Array.getElem?_eq_some_iff.mp hv).1
          obtain ⟨t, e⟩ := PyProof.Rows.IntsAre.int_at hit i v (by rw [Array.getElem?_toList]; exact hv)
          refine ⟨ns[i], t, List.getElem?_eq_getElem hi, ?_⟩
          rw [e, List.getD_eq_getElem?_getD, List.getElem?_eq_getElem hi] <;> rfl
        refine set_update_ints ((Walks.list h3 _ l neI items).toS) s.heap.objs.size
          nf ns isz hb val (items.size - 0) 0 _ (by omega) (Nat.zero_le _)
          ⟨⟨_, Heap.get?_push_size _ rfl, rfl, rfl⟩, (il.push _)⟩ ?a0 ?aR
        case a0 => exact ⟨0, Nat.le_refl 0, setR_new_at (Heap.get?_push_of_some _ at0)⟩
        case aR =>
          intro t c mv hc hS
          obtain ⟨g, g2, d2, k2, o2⟩ := t
          have eg : g2 = s.gens := mv.gens
          have ed : d2 = s.drawn := mv.drawn
          have eo : o2 = s.os := mv.os
          subst eg; subst ed; subst eo
          show wpAny _ _ _ _ _ _
          refine wpAny_pure ?_
          show wpAny _ _ (ret Value.none) _ _ _
          rw [isz] at hc
          refine wpAny_pure ⟨rfl, g, k2, c, rfl, hS, hc, fun b o e => ?_⟩
          have b0 : b < s.heap.objs.size := Heap.lt_size e
          have b2 : b ≠ (s.heap.push (set0 w)).objs.size := by
            rw [Heap.size_push]
            exact Nat.ne_of_lt (Nat.lt_succ_of_lt b0)
          exact mv.heap b o (by simp only [List.mem_cons, List.mem_singleton, List.not_mem_nil, or_false, not_or]; exact ⟨Nat.ne_of_lt b0, b2⟩) (Heap.get?_push_of_some _ (Heap.get?_push_of_some _ e))
      · cases r2 with
        | error e => exact hr2
        | ok flow2 =>
          cases flow2 with
          | ret r =>
            obtain ⟨rfl, g, tk, c, rfl, hS, hc, hk⟩ := hr2
            repeat (any_goals (first | assumption | wp_step))
            exact fin _ _ _ hS hc hk
          | _ => exact hr2.elim
    | _ => exact hr.elim
/-- sorted of a set of ints, however many -/
theorem sorted_setAny {a : Addr} {M : Int → Bool} {n : Nat} {Q : Value → Shared → Prop} (R : SetR w s.heap a M n) (hh : A.handled = none) (hz : n ≤ sizeLine)
    (fin : ∀ t p (out : List Value) (c : Nat) (ns : List Int), (∀ b o, s.heap.get? b = some o → t.heap.get? b = some o) → t.gens = s.gens → t.os = s.os → s.heap.objs.size ≤ p →
      t.heap.get? p = some (seqObj "list" out.toArray c) → IntsAre out ns → ns.Pairwise (· < ·) → (∀ k, k ∈ ns ↔ M k = true) → ns.length = n → Q (.ref p) t) :
    wpAny (model P w) A (call (.builtin "sorted") [.ref a]) Q E s := by
  obtain ⟨o, es, ep, t, ho, hex, hd, good, nd, hm, hb, hf, hn, hr, hl⟩ := R
  refine Calls.call_function_entry kind_sorted plain_sorted entry_sorted (args_sorted1 _) ?_
  unfold Builtin.«sorted»
  refine wpAny_bind (m := checkCount "sorted" 1 1 _) (wpAny_pure ?_)
  refine wpAny_bind (collect_set (A := A.in1) hh ⟨o, ho, hex.1, hd⟩ hf hb hr hl fun s1 vs keep zz gg oo pm => ?_)
  have vl : vs.length = n := by rw [pm.length_eq, List.length_map, Array.length_toList]; exact hn
  have hI : IntsAre vs (vs.map Builtin.Re.reRawOf) := ints_of vs fun v hv => by
    obtain ⟨e, he, q⟩ := List.mem_map.mp (pm.mem_iff.mp hv)
    obtain ⟨k, tk, h1, _⟩ := good e he
    exact ⟨k, tk, by rw [← q]; exact h1⟩
  have pk : (vs.map Builtin.Re.reRawOf).Perm (es.toList.map keyOf) := by
    have q := pm.map Builtin.Re.reRawOf
    rw [List.map_map] at q
    exact q
  refine wpAny_bind (wpAny_newList ?_ (by rw [vl]; exact hz))
  have hoL : (s1.heap.push (seqObj "list" vs.toArray 0)).get? s1.heap.objs.size = some (seqObj "list" vs.toArray 0) := Heap.get?_push_size _ rfl
  refine wpAny_bind (wpAny_holding (wpAny_call_entry slot_list_sort ⟨_, hoL, rfl⟩ entry_list_sort (SrtO.list_sort_ord SrtO.swo_int hoL (by rw [vl]; exact hz) (fun h2 => SrtO.ints_sortable hI h2) fun out a1 a2 => ⟨_, rfl, ?_⟩) (args_list_sort _)))
  obtain ⟨k1, k2, k3⟩ := SrtO.ints_out hI a1 a2
  obtain ⟨c, hc⟩ := PyProof.Rows.sortedHeap_at (vs := vs) (out := out.toArray) hoL
  have pn : (out.map SrtO.iv).Perm (es.toList.map keyOf) := k2.trans pk
  refine wpAny_pure ⟨_, rfl, fin _ s1.heap.objs.size out c (out.map SrtO.iv) (fun b u e => ?_) gg oo zz hc k1 (lt_of_le_nodup _ k3 (pn.nodup_iff.mpr nd)) (fun k => by rw [pn.mem_iff, ← hm k]) ?_⟩
  · have q := keep b u e
    have lt := Heap.lt_size q
    show (sortedHeap (s1.heap.push (seqObj "list" vs.toArray 0)) s1.heap.objs.size vs out.toArray).get? b = some u
    rw [sortedHeap_old (Nat.ne_of_lt lt) (by rw [size_push']; exact Nat.lt_succ_of_lt lt)]
    exact Heap.get?_push_of_some _ q
  · rw [pn.length_eq, List.length_map, Array.length_toList]; exact hn
end
section
variable {X : Cx} {T : Tab} {EE : XX} {e : Expr} {f : En → M D} {p p2 pos pos2 : Pos}
def setSortD (d : D) (S : Cells) : Option (List D) := match (seqL S d).bind ints? with
  | some ns => if ns.length + 1 < scanBound then some ((setSort ns).map .int) else none
  | none => none
/-- sorted(set(xs)), xs ints -/
theorem evL_sortedSet (hc : X.calm = true) (hg : Gl X "sorted") (hm : X.mg "sorted" = none) (hv : bootBuiltins "sorted" = some (.builtin "sorted")) (hg2 : Gl X "set") (hm2 : X.mg "set" = none) (hv2 : bootBuiltins "set" = some (.type "set")) (he : EvE X T EE e f)
    (hs : starEach [.Call (.Name "set" p2) [e] [] pos2] X.env = (false, eval (.Call (.Name "set" p2) [e] [] pos2) X.env) :: starEach [] X.env := by rfl) (hs2 : starEach [e] X.env = (false, eval e X.env) :: starEach [] X.env := by rfl) :
    EvL X T EE (.Call (.Name "sorted" p) [.Call (.Name "set" p2) [e] [] pos2] [] pos) (fun ρ => M.bind (f ρ) fun d => M.opt (setSortD d)) := by
  have cs : CallR X (.type "set") (fun vs H Q => ∃ (a : Addr) (ns : List Int), vs = [.ref a] ∧ SqL X.K H a (ns.map V.int) ∧ ns.length + 1 < scanBound ∧ ∀ q c, H q = none → c ≤ ns.length → Q (.ref q) (upd H q (SetO X.w q (fun j => decide (j ∈ ns)) c))) := by
    intro pins s σ H vs us Q I rv h
    obtain ⟨a, ns, rfl, s1, hb, q⟩ := h
    rw [Vals.ref1 rv]
    obtain ⟨its, rv2, pl, hz⟩ := I.list s1
    refine set_of_list ns (I.ok.hd hc) pl.isList (by simpa using rv2.ints) hb fun g tk c R hcl keep => ?_
    have np : H s.heap.objs.size = none := I.hok.fresh (Nat.le_refl _)
    exact ⟨.ref _, _, I.laid (t' := tk) keep (Nat.le_refl _) (setO_new R), rfl, q _ c np hcl⟩
  have so : CallR X (.builtin "sorted") (fun vs H Q => ∃ (a : Addr) (M : Int → Bool) (n : Nat), vs = [V.ref a] ∧ H a = some (SetO X.w a M n) ∧ n ≤ sizeLine ∧
      ∀ (ns : List Int) (q : Addr), ns.Pairwise (· < ·) → (∀ k : Int, k ∈ ns ↔ M k = true) → ns.length = n → H q = none → Q (.ref q) (upd H q (.lst (ns.map V.int)))) := by
    intro pins s σ H vs us Q I r h
    obtain ⟨a, M, n, rfl, ha, hz, q⟩ := h
    rw [Vals.ref1 r]
    refine sorted_setAny (setO_get I ha) (I.ok.hd hc) hz fun t p out c ns keep gg oo hp hg hi hs hm hl => ?_
    have hn : H p = none := I.hok.fresh hp
    have J : Inv X pins σ (upd H p (.lst (ns.map V.int))) { s with heap := t.heap, gens := t.gens, drawn := t.drawn, toks := t.toks } :=
      I.call (ch := []) (Un.laid keep hp hn) (I.hok.laid keep hp ⟨by rw [List.length_map, hl]; exact hz, out, c, vals_of_ints hi, hg⟩) (by rw [gg]; exact I.bare) (fun _ z => nomatch z)
    have e : t = { s with heap := t.heap, gens := t.gens, drawn := t.drawn, toks := t.toks } := by
      cases t
      cases s
      cases oo
      rfl
    rw [e]
    exact ⟨.ref p, _, J, rfl, q ns p hs hm hl hn⟩
  have pset := pe_callTy (p := p2) (pos := pos2) cs hg2 hm2 hv2 (pa_cons he.pe pa_nil hs2) (by decide) (by decide) hs2 rfl
  refine ⟨(pe_callB (p := p) (pos := pos) so hg hm hv (pa_cons pset pa_nil hs) (by decide) (by decide) hs rfl).dimp fun σ H Q h => ?_⟩
  refine (show dG X.K T EE (repE X.K T) f σ H _ from ?_)
  obtain ⟨_, _, _, _, h1, h2, h3⟩ := bindD (rep := repE X.K T) h
  refine ⟨_, _, _, _, h1, h2, h3.imp fun v H1 ⟨d, γ1, hid, S1, ρ, q1, q3, q4, q5⟩ => ?_⟩
  obtain ⟨l, er, w5⟩ := opt_ok q5
  unfold setSortD at er
  split at er
  · rename_i ns en
    split at er
    · rename_i hb
      cases er
      cases eq : seqL S1 d with
      | none => rw [eq] at en; cases en
      | some l0 =>
        rw [eq] at en
        obtain ⟨a, ws, rfl, s1, z, g⟩ := seqL_ok q1 q4 eq
        obtain ⟨k1, k2⟩ := ints?_rep g en
        subst k1
        refine ⟨a, ns, rfl, s1, hb, fun q c np hc => ?_⟩
        have zn : ns.length ≤ sizeLine := by
          rw [k2, List.length_map] at z
          exact z
        refine ⟨q, _, c, rfl, upd_same, Nat.le_trans hc zn, fun ms p2 hs hm hl hp2 => ?_⟩
        have em : ms = setSort ns := strict_uniq hs (setSort_sorted ns) fun k => by
          rw [hm k, setSort_mem]
          simp
        subst em
        obtain ⟨a1, a2, a3⟩ := q1.lay np (SetO X.w q (fun j => decide (j ∈ ns)) c)
        exact w5 γ1 _ _ a1 a2 ⟨by rw [List.length_map, hl]; exact Nat.le_trans hc zn, rep_ints _⟩ p2 hp2
    · cases er
  · cases er
end
end DL
end
section
set_option maxHeartbeats 4000000
/-! DLj: calls of the text's defs by name; short words for what is computed. -/
namespace DL
open PySem PySem.Spec L2
open PyProof.Rows hiding St
/-- a def of the module, by name, with its promise -/
def FnB (P : Program) (w : World) (K : PySem.W.Frag) (mg : Str → Option Value) (base : Heap) (k : Nat) (x : Str) (ps : List Str) (sp : Sp) : Prop :=
  ∃ fd, PySem.W.keepIn K (.ref (He.ga K x)) = true ∧ mg x = some (.ref (He.ga K x)) ∧ Binds K fd ps [] ∧ FnG P w K mg base k (He.ga K x) fd ps sp
section
variable {P : Program} {w : World} {K : PySem.W.Frag} {mg : Str → Option Value} {base : Heap} {T : Tab}
theorem fnB {x : Str} {k : Nat} {ps : List Str} {sp : Sp} {params : Arguments} {body : List Stmt} {scope : Scope} {dvs : List V} {kws : List (Str × V)}
    (F : ∃ fd, FunD K x x params body scope dvs kws (He.ga K x) fd) (hm : mg x = some (.ref (He.ga K x))) (hb : ∀ fd, FunD K x x params body scope dvs kws (He.ga K x) fd → Binds K fd ps [])
    (h : ∀ fd, FunD K x x params body scope dvs kws (He.ga K x) fd → FnG P w K mg base k (He.ga K x) fd ps sp) : FnB P w K mg base k x ps sp := by
  obtain ⟨fd, F⟩ := F
  exact ⟨fd, F.kp, hm, hb fd F, h fd F⟩
end
section
variable {X : Cx} {T : Tab} {EE : XX} {j k n : Nat} {x : Str} {ps : List Str} {p pos : Pos} {e : Expr} {es : List Expr} {fs : En → M (List D)}
theorem ev_callB {g : List D → M D} (F : FnB X.prog X.w X.K X.mg X.base j x ps (spD X.K T n g)) (hr : Room k X.A) (hj : j ≤ k) (nr : NoRepr X.A) (hg : Gl X x)
    (ha : EvA X T EE (e :: es) fs) (hdb : (x == ("__debug__" : Str)) = false := by decide) (he : starEach (e :: es) X.env = (false, eval e X.env) :: starEach es X.env := by rfl) (hpl : (backTo pos (starEach es X.env)).any (·.1) = false := by rfl) :
    EvE X T EE (.Call (.Name x p) (e :: es) [] pos) (fun ρ => M.bind (fs ρ) fun ds => calmM (arity n g ds)) := by
  obtain ⟨fd, hk, hm, hb, F⟩ := F
  exact ev_call F (hr.mono hj) nr hg hm hk hb ha hdb he hpl
theorem evL_callB {g : List D → M (List D)} (F : FnB X.prog X.w X.K X.mg X.base j x ps (spL X.K T n g)) (hr : Room k X.A) (hj : j ≤ k) (nr : NoRepr X.A) (hg : Gl X x)
    (ha : EvA X T EE (e :: es) fs) (hdb : (x == ("__debug__" : Str)) = false := by decide) (he : starEach (e :: es) X.env = (false, eval e X.env) :: starEach es X.env := by rfl) (hpl : (backTo pos (starEach es X.env)).any (·.1) = false := by rfl) :
    EvL X T EE (.Call (.Name x p) (e :: es) [] pos) (fun ρ => M.bind (fs ρ) fun ds => calmM (arity n g ds)) := by
  obtain ⟨fd, hk, hm, hb, F⟩ := F
  exact evL_call F (hr.mono hj) nr hg hm hk hb ha hdb he hpl
end
/-! isinstance of the usual classes -/
def tabInt (n : String) : Bool := n == "int" || n == "bool"
def tabIs (m : String) (n : String) : Bool := n == m
theorem hk_int : ∀ a ∈ tyNames, kitB a "int" = some (tabInt a) := by decide +kernel
theorem hk_bool : ∀ a ∈ tyNames, kitB a "bool" = some (tabIs "bool" a) := by decide +kernel
theorem hk_str : ∀ a ∈ tyNames, kitB a "str" = some (tabIs "str" a) := by decide +kernel
theorem hk_list : ∀ a ∈ tyNames, kitB a "list" = some (tabIs "list" a) := by decide +kernel
theorem hk_tuple : ∀ a ∈ tyNames, kitB a "tuple" = some (tabIs "tuple" a) := by decide +kernel
/-! short words -/
def b2 (op : D → D → Cells → Option D) (a b : M D) : M D := M.bind a fun x => M.bind b fun y => M.opt (op x y)
def b2L (op : D → D → Cells → Option (List D)) (a b : M D) : M (List D) := M.bind a fun x => M.bind b fun y => M.opt (op x y)
def b1 (op : D → Cells → Option D) (a : M D) : M D := M.bind a fun x => M.opt (op x)
def b2T (op : D → D → Cells → Option D) (a b : M D) : M Bool := M.bind a fun x => M.bind b fun y => M.opt (fun S => (op x y S).bind asB)
def chE (op op' : D → D → Cells → Option D) (a b c : M D) : M D := M.bind a fun x => M.bind b fun y => M.bind (M.opt (fun S => (op x y S).bind asB)) fun k => if k = true then (M.bind c fun z => M.opt (op' y z)) else kon (.bl false)
def notT (a : M Bool) : M Bool := M.bind a fun c S => .ok (!c) S
def valT (a : M D) : M Bool := M.bind a fun x => M.opt (truD x)
def notE (a : M D) : M D := M.bind a fun d => M.bind (M.opt (fun _ => asB d)) fun c => kon (.bl (!c))
def ifE (c : M Bool) (a b : M D) : M D := M.bind c fun k => if k = true then a else b
def ifL (c : M Bool) (a b : M (List D)) : M (List D) := M.bind c fun k => if k = true then a else b
def nilA : M (List D) := fun S => .ok [] S
def tupE (a : M (List D)) : M D := M.bind a fun l => M.opt fun _ => if l.length ≤ sizeLine then some (.tup l) else none
def lstE (a : M (List D)) : M (List D) := M.bind a fun l => M.opt fun _ => if l.length ≤ sizeLine then some l else none
def frzE (a : M (List D)) : M D := M.bind a fun l => kon (.lst l)
def celE (a : M (List D)) : M D := M.bind a newC
def cbE (op : List D → Cells → Option D) (a : M (List D)) : M D := M.bind a fun ds => M.opt (op ds)
def cbL (op : List D → Cells → Option (List D)) (a : M (List D)) : M (List D) := M.bind a fun ds => M.opt (op ds)
def callE (n : Nat) (g : List D → M D) (a : M (List D)) : M D := M.bind a fun ds => calmM (arity n g ds)
def callL (n : Nat) (g : List D → M (List D)) (a : M (List D)) : M (List D) := M.bind a fun ds => calmM (arity n g ds)
def noO : M (Option Int) := fun S => .ok none S
def smO (a : M D) : M (Option Int) := M.bind a fun d => M.opt fun _ => partD d
def slE (a : M D) (i j : M (Option Int)) : M D := M.bind a fun d => M.bind i fun i => M.bind j fun j => M.opt (slD d i j)
def slLL (a : M D) (i j : M (Option Int)) : M (List D) := M.bind a fun d => M.bind i fun i => M.bind j fun j => M.opt (slL d i j)
def revL (a : M D) : M (List D) := M.bind a fun d => M.opt fun S => (seqL S d).map List.reverse
def stepL (a k : M D) : M (List D) := M.bind a fun d => M.bind k fun y => M.opt (sliceStepD d y)
def isiE (tab : String → Bool) (a : M D) : M D := M.bind a fun d => M.opt (isiD tab d)
def setsL (a : M D) : M (List D) := M.bind a fun d => M.opt (setSortD d)
def lrgL (a : M (List D)) : M (List D) := M.bind a fun l => M.opt fun _ => rangeA l
def mthE (tn : String) (op : D → List D → Cells → Option (D × Cells)) (o : M D) (a : M (List D)) : M D := M.bind o fun d => M.bind (M.opt (isTy tn d)) fun _ => M.bind a fun ds => M.chg (op d ds)
def mth0 (tn : String) (op : D → List D → Cells → Option (D × Cells)) (o : M D) : M D := M.bind o fun d => M.bind (M.opt (isTy tn d)) fun _ => M.chg (op d [])
def itS (a : M D) : M (List D) := M.bind a fun d => M.opt fun _ => itemsD d
def itR1 (a : M (List D)) : M (List D) := M.bind a fun l => M.opt fun _ => range1 l
def itR2 (a : M (List D)) : M (List D) := M.bind a fun l => M.opt fun _ => range2 l
def itR3 (a : M (List D)) : M (List D) := M.bind a fun l => M.opt fun _ => range3 l
def itZ (a : M (List D)) : M (List D) := M.bind a fun l => M.opt fun _ => zipA l
def itN (a : M (List D)) : M (List D) := M.bind a fun l => M.opt fun _ => enumA l
def lcL (i : M (List D)) (p : Pat) (t : En → M Bool) (e : En → M D) (ρ : En) (vs : List Nat) : M (List D) := M.bind i fun items => compD p t e (wipeD ρ vs) items
/-! statements -/
def setS (i : Nat) (f : En → M D) : SM := bindS f fun d ρ S => .nx (ρ.set i (some d)) S
def parS (i j : Nat) (f : En → M (List D)) : SM := bindS f fun l ρ S => match l with
  | [d, e] => .nx ((ρ.set i (some d)).set j (some e)) S
  | _ => .stuck
def augS (i : Nat) (op : D → D → Cells → Option D) (f : En → M D) : SM := bindS (fun ρ => M.bind (rd ρ i) fun x => M.bind (f ρ) fun y => M.opt (op x y)) fun d ρ S => .nx (ρ.set i (some d)) S
def stoS (f fo fi : En → M D) : SM := bindS f fun y => bindS fo fun d => bindS fi fun k ρ S => match setAtD d k y S with
  | some S' => .nx ρ S'
  | none => .stuck
def expS (f : En → M D) : SM := bindS f fun _ => nxS
def retS (f : En → M D) : SM := bindS f fun d _ S => .rt d S
def retNS : SM := fun _ S => .rt .non S
def ifS (c : En → M Bool) (F G : SM) : SM := bindS c fun k => if k = true then F else G
def forS (f : En → M (List D)) (p : Pat) (B : SM) : SM := bindS f fun items => forD p B items
def stkS : SM := fun _ _ => .stuck
def bkS : SM := fun ρ S => .bk ρ S
def ctS : SM := fun ρ S => .ct ρ S
end DL
end
section
set_option maxHeartbeats 4000000
/-! DLk: x in a list, list.index. -/
namespace DL
open PySem PySem.Spec L2
open PyProof.Rows hiding St
section
variable {X : Cx} {T : Tab}
theorem hu65 {k : Nat} {A : Around} (r : Room k A) : A.units + 65 < cLine := by have := r.un; omega
def inP (d1 d2 : D) (S : Cells) : Option Bool := match vw S d1, vw S d2 with
  | some p, some (.list zs) => if SeqAt.shaped p = true ∧ SeqAt.shaped (.list zs) = true then some (zs.any fun z => PyData.eqv z p) else none
  | _, _ => none
theorem inP_some {d1 d2 : D} {S : Cells} {b : Bool} (e : inP d1 d2 S = some b) : ∃ p zs, vw S d1 = some p ∧ vw S d2 = some (.list zs) ∧ SeqAt.shaped p = true ∧ SeqAt.shaped (.list zs) = true ∧ b = zs.any fun z => PyData.eqv z p := by
  unfold inP at e
  split at e
  · rename_i p zs h1 h2
    split at e
    · rename_i hs
      cases e
      exact ⟨p, zs, h1, h2, hs.1, hs.2, rfl⟩
    · cases e
  · cases e
def dIn (d1 d2 : D) (S : Cells) : Option D := (inP d1 d2 S).map .bl
def dNotIn (d1 d2 : D) (S : Cells) : Option D := (inP d1 d2 S).map fun b => .bl (!b)
theorem op_dIn (hu : X.A.units + 65 < cLine) : OpR X (compareOp .In) (rO X.K T dIn) := (op_inD hu).dimp fun x y H Q h => by
  obtain ⟨γ, hid, S, d1, d2, d, hold, r1, r2, e, q⟩ := h
  cases eb : inP d1 d2 S with
  | none => unfold dIn at e; rw [eb] at e; cases e
  | some b =>
    unfold dIn at e
    rw [eb] at e
    cases e
    obtain ⟨p, zs, h1, h2, h3, h4, rfl⟩ := inP_some eb
    exact ⟨p, zs, vw_ok hold r1 h1, vw_ok hold r2 h2, h3, h4, q.same hold (.bl _)⟩
theorem op_dNotIn (hu : X.A.units + 65 < cLine) : OpR X (compareOp .NotIn) (rO X.K T dNotIn) := (op_notInD hu).dimp fun x y H Q h => by
  obtain ⟨γ, hid, S, d1, d2, d, hold, r1, r2, e, q⟩ := h
  cases eb : inP d1 d2 S with
  | none => unfold dNotIn at e; rw [eb] at e; cases e
  | some b =>
    unfold dNotIn at e
    rw [eb] at e
    cases e
    obtain ⟨p, zs, h1, h2, h3, h4, rfl⟩ := inP_some eb
    exact ⟨p, zs, vw_ok hold r1 h1, vw_ok hold r2 h2, h3, h4, q.same hold (.bl _)⟩
def ixOf (d y : D) (S : Cells) : Option Nat := match vw S d, vw S y with
  | some (.list zs), some p => if SeqAt.shaped (.list zs) = true ∧ SeqAt.shaped p = true then zs.findIdx? fun z => PyData.eqv z p else none
  | _, _ => none
def mIndex (d : D) (ds : List D) (S : Cells) : Option (D × Cells) := match ds with
  | [y] => (ixOf d y S).map fun j => (.int (j : Nat), S)
  | _ => none
theorem mt_mIndex (hu : X.A.units + 65 < cLine) : MtR X "list.index" (rMt X.K T mIndex) := by
  intro pins s σ H x vs v us Q I rx rv h
  refine mt_indexD hu pins s σ H x vs v us Q I rx rv ?_
  obtain ⟨γ, hid, S, d, ds, d', S', hold, r1, r2, e, q⟩ := h
  unfold mIndex at e
  split at e
  · rename_i y
    cases ej : ixOf d y S with
    | none => rw [ej] at e; cases e
    | some j =>
      rw [ej] at e
      cases e
      unfold ixOf at ej
      split at ej
      · rename_i zs p h1 h2
        split at ej
        · rename_i hs
          obtain ⟨w, rfl, ry⟩ := rep1 r2
          have a1 := vw_ok hold r1 h1
          have a2 := vw_ok hold ry h2
          obtain ⟨hj, hz, hno⟩ := List.findIdx?_eq_some_iff_getElem.mp ej
          have hr : ∃ a, x = .ref a := by cases a1 <;> exact ⟨_, rfl⟩
          obtain ⟨a, rfl⟩ := hr
          refine ⟨a, w, p, zs, j, zs[j], rfl, rfl, a1, a2, hs.1, hs.2, List.getElem?_eq_getElem hj, hz, fun m z' hm hz' => ?_, q.same hold (.int _)⟩
          obtain ⟨hm', rfl⟩ := List.getElem?_eq_some_iff.mp hz'
          have := hno m hm
          simpa using this
        · cases ej
      · cases ej
  · cases e
end
/-! a < b < c as a test -/
section
variable {X : Cx} {T : Tab} {EE : XX} {a b c : Expr} {fa fb fc : En → M D} {pos : Pos} {o o' : CmpOp} {op op' : D → D → Cells → Option D}
theorem chain_read {σ : St} {H : Hp} {Q : VK} (h : dE X.K T EE (fun ρ => chE op op' (fa ρ) (fb ρ) (fc ρ)) σ H Q) : tChain (rO X.K T op) (rO X.K T op') (dE X.K T EE fa) (dE X.K T EE fb) (dE X.K T EE fc) σ H Q := by
  have h : dE X.K T EE (fun ρ => M.bind (fa ρ) fun x => M.bind (fb ρ) fun y => M.bind (M.opt (fun S => (op x y S).bind asB)) fun k => if k = true then (M.bind (fc ρ) fun z => M.opt (op' y z)) else kon (.bl false)) σ H Q := h
  refine (show dG X.K T EE (repE X.K T) fa σ H _ from ?_)
  obtain ⟨γ, hid, S, ρ, hold, env, h⟩ := h
  obtain ⟨_, _, _, _, h1, h2, h3⟩ := bindR (rep := repE X.K T) hold env h
  refine ⟨_, _, _, _, h1, h2, h3.imp fun x H1 ⟨d1, γ1, S1, q1, q2, q3, q4, q5⟩ => ?_⟩
  obtain ⟨_, _, _, _, h1, h2, h3⟩ := bindR (rep := repE X.K T) q1 q3 q5
  refine ⟨_, _, _, _, h1, h2, h3.imp fun y H2 ⟨d2, γ2, S2, w1, w2, w3, w4, w5⟩ => ?_⟩
  cases q : op d1 d2 S2 with
  | none =>
    rw [bind_of_stuck (opt_none (by rw [q]; rfl))] at w5
    exact w5.elim
  | some d =>
    cases q2 : asB d with
    | none =>
      rw [bind_of_stuck (opt_none (by rw [q]; exact q2))] at w5
      exact w5.elim
    | some k =>
      rw [bind_of_ok (opt_some (a := k) (by rw [q]; exact q2))] at w5
      refine ⟨γ2, hid, S2, d1, d2, d, w1, w2.rp q4, w4, q, fun γ' H' v c1 c2 c3 => ?_⟩
      obtain ⟨rfl, rfl⟩ := asB_ok c3 q2
      refine ⟨k, rfl, ?_⟩
      have env3 := w3.mono c2.pre (c2.sameH hid)
      have w6 := w5.base c2
      cases hk : k with
      | true =>
        rw [if_pos hk] at w6
        rw [if_pos rfl]
        obtain ⟨_, _, _, _, h1, h2, h3⟩ := bindR (rep := repE X.K T) (f := fc) c1 env3 w6
        refine ⟨_, _, _, _, h1, h2, h3.imp fun z H3 ⟨d3, γ3, S3, u1, u2, u3, u4, u5⟩ => ?_⟩
        obtain ⟨d', e, u5⟩ := opt_ok u5
        exact ⟨γ3, hid, S3, d2, d3, d', u1, u2.rp (c2.rp w4), u4, e, u5⟩
      | false =>
        rw [if_neg (by rw [hk]; exact Bool.false_ne_true)] at w6
        rw [if_neg Bool.false_ne_true]
        exact w6 γ' H' _ c1 (Ext.refl _ _ _) (.bl _)
theorem evt_chain (ho : OpR X (compareOp o) (rO X.K T op)) (ho' : OpR X (compareOp o') (rO X.K T op')) (ha : EvE X T EE a fa) (hb : EvE X T EE b fb) (hc : EvE X T EE c fc) (hm : lastMarks [o, o'] [b, c] = false := by rfl) :
    EvT X T EE (.Compare a [o, o'] [b, c] pos) (fun ρ => M.bind (chE op op' (fa ρ) (fb ρ) (fc ρ)) fun x => M.opt fun _ => asB x) := by
  refine ⟨(pt_chain ho ho' ha.pe hb.pe hc.pe hm).dimp fun σ H Q h => chain_read ?_⟩
  obtain ⟨γ, hid, S, ρ, hold, env, h⟩ := h
  obtain ⟨_, _, _, _, h1, h2, h3⟩ := bindR (rep := repE X.K T) (f := fun ρ => chE op op' (fa ρ) (fb ρ) (fc ρ)) hold env h
  refine ⟨_, _, _, _, h1, h2, h3.imp fun x H1 ⟨d1, γ1, S1, q1, q2, q3, q4, q5⟩ => ?_⟩
  obtain ⟨k, e, w⟩ := opt_ok q5
  obtain ⟨rfl, rfl⟩ := asB_ok q4 e
  exact ⟨k, rfl, w γ1 H1 k q1 (Ext.refl _ _ _) rfl⟩
def chT (op op' : D → D → Cells → Option D) (a b c : M D) : M Bool := M.bind (chE op op' a b c) fun x => M.opt fun _ => asB x
end
end DL
end
section
set_option maxHeartbeats 4000000
/-! DLm: reckoning with readings. -/
namespace DL
open PySem PySem.Spec L2
open PyProof.Rows hiding St
section
variable {α β : Type} {S S1 S2 S3 : Cells} {ρ : En}
theorem bd_ok {f : M α} {g : α → M β} {a : α} {r : R β} (h : f S = .ok a S1) (h2 : g a S1 = r) : M.bind f g S = r := by unfold M.bind; rw [h]; exact h2
theorem op_ok {f : Cells → Option α} {a : α} (h : f S = some a) : M.opt f S = .ok a S := by unfold M.opt; rw [h]
theorem b2_ok {op : D → D → Cells → Option D} {a b : M D} {x y z : D} (h1 : a S = .ok x S1) (h2 : b S1 = .ok y S2) (h3 : op x y S2 = some z) : b2 op a b S = .ok z S2 := bd_ok h1 (bd_ok h2 (op_ok h3))
theorem b2L_ok {op : D → D → Cells → Option (List D)} {a b : M D} {x y : D} {z : List D} (h1 : a S = .ok x S1) (h2 : b S1 = .ok y S2) (h3 : op x y S2 = some z) : b2L op a b S = .ok z S2 := bd_ok h1 (bd_ok h2 (op_ok h3))
theorem b1_ok {op : D → Cells → Option D} {a : M D} {x z : D} (h1 : a S = .ok x S1) (h3 : op x S1 = some z) : b1 op a S = .ok z S1 := bd_ok h1 (op_ok h3)
theorem b2T_ok {op : D → D → Cells → Option D} {a b : M D} {x y : D} {z : Bool} (h1 : a S = .ok x S1) (h2 : b S1 = .ok y S2) (h3 : op x y S2 = some (.bl z)) : b2T op a b S = .ok z S2 := bd_ok h1 (bd_ok h2 (op_ok (by show (op x y S2).bind asB = _; rw [h3]; rfl)))
theorem cons_ok {x : M D} {y : M (List D)} {d : D} {l : List D} (h1 : x S = .ok d S1) (h2 : y S1 = .ok l S2) : consM x y S = .ok (d :: l) S2 := bd_ok h1 (bd_ok h2 rfl)
theorem cb_ok {op : List D → Cells → Option D} {a : M (List D)} {l : List D} {z : D} (h1 : a S = .ok l S1) (h2 : op l S1 = some z) : cbE op a S = .ok z S1 := bd_ok h1 (op_ok h2)
theorem cbL_ok {op : List D → Cells → Option (List D)} {a : M (List D)} {l : List D} {z : List D} (h1 : a S = .ok l S1) (h2 : op l S1 = some z) : cbL op a S = .ok z S1 := bd_ok h1 (op_ok h2)
theorem tup_ok {a : M (List D)} {l : List D} (h1 : a S = .ok l S1) (h2 : l.length ≤ sizeLine) : tupE a S = .ok (.tup l) S1 := bd_ok h1 (op_ok (if_pos h2))
theorem lst_ok {a : M (List D)} {l : List D} (h1 : a S = .ok l S1) (h2 : l.length ≤ sizeLine) : lstE a S = .ok l S1 := bd_ok h1 (op_ok (if_pos h2))
theorem frz_ok {a : M (List D)} {l : List D} (h1 : a S = .ok l S1) : frzE a S = .ok (.lst l) S1 := bd_ok h1 rfl
theorem cel_ok {a : M (List D)} {l : List D} (h1 : a S = .ok l S1) (h2 : flatL l = true) : celE a S = .ok (.ref S1.length) (S1 ++ [⟨true, .lst l⟩]) := bd_ok h1 (by unfold newC M.chg; simp only [h2, if_true])
theorem ar_ok {n : Nat} {g : List D → M α} {l : List D} {z : α} (hn : l.length = n) (h2 : g l S = .ok z S1) : calmM (arity n g l) S = .ok z S1 := calm_of (by unfold arity; rw [if_pos hn]; exact h2)
theorem call_ok {n : Nat} {g : List D → M D} {a : M (List D)} {l : List D} {z : D} (h1 : a S = .ok l S1) (h2 : g l S1 = .ok z S2) (hn : l.length = n := by rfl) : callE n g a S = .ok z S2 := bd_ok h1 (ar_ok hn h2)
theorem callL_ok {n : Nat} {g : List D → M (List D)} {a : M (List D)} {l : List D} {z : List D} (h1 : a S = .ok l S1) (h2 : g l S1 = .ok z S2) (hn : l.length = n := by rfl) : callL n g a S = .ok z S2 := bd_ok h1 (ar_ok hn h2)
theorem val_ok {a : M D} {d : D} {b : Bool} (h1 : a S = .ok d S1) (h2 : truD d S1 = some b) : valT a S = .ok b S1 := bd_ok h1 (op_ok h2)
theorem not_ok {a : M Bool} {b : Bool} (h1 : a S = .ok b S1) : notT a S = .ok (!b) S1 := bd_ok h1 rfl
theorem itS_ok {a : M D} {d : D} {l : List D} (h1 : a S = .ok d S1) (h2 : itemsD d = some l) : itS a S = .ok l S1 := bd_ok h1 (op_ok h2)
theorem and_t {x y : M Bool} {r : R Bool} (h1 : x S = .ok true S1) (h2 : y S1 = r) : andM x y S = r := bd_ok h1 h2
theorem and_f {x y : M Bool} (h1 : x S = .ok false S1) : andM x y S = .ok false S1 := bd_ok h1 rfl
theorem or_t {x y : M Bool} (h1 : x S = .ok true S1) : orM x y S = .ok true S1 := bd_ok h1 rfl
theorem or_f {x y : M Bool} {r : R Bool} (h1 : x S = .ok false S1) (h2 : y S1 = r) : orM x y S = r := bd_ok h1 h2
theorem andE_t {x y : M D} {r : R D} (h1 : x S = .ok (.bl true) S1) (h2 : y S1 = r) : andE x y S = r := bd_ok h1 (bd_ok (op_ok rfl) h2)
theorem andE_f {x y : M D} (h1 : x S = .ok (.bl false) S1) : andE x y S = .ok (.bl false) S1 := bd_ok h1 (bd_ok (op_ok rfl) rfl)
theorem orE_t {x y : M D} (h1 : x S = .ok (.bl true) S1) : orE x y S = .ok (.bl true) S1 := bd_ok h1 (bd_ok (op_ok rfl) rfl)
theorem orE_f {x y : M D} {r : R D} (h1 : x S = .ok (.bl false) S1) (h2 : y S1 = r) : orE x y S = r := bd_ok h1 (bd_ok (op_ok rfl) h2)
theorem ifE_t {c : M Bool} {a b : M D} {r : R D} (h1 : c S = .ok true S1) (h2 : a S1 = r) : ifE c a b S = r := bd_ok h1 h2
theorem ifE_f {c : M Bool} {a b : M D} {r : R D} (h1 : c S = .ok false S1) (h2 : b S1 = r) : ifE c a b S = r := bd_ok h1 h2
theorem mth_ok {tn : String} {op : D → List D → Cells → Option (D × Cells)} {o : M D} {a : M (List D)} {d z : D} {l : List D} (h1 : o S = .ok d S1) (h2 : isTy tn d S1 = some ()) (h3 : a S1 = .ok l S2) (h4 : op d l S2 = some (z, S3)) : mthE tn op o a S = .ok z S3 :=
  bd_ok h1 (bd_ok (op_ok h2) (bd_ok h3 (by unfold M.chg; rw [h4])))
/-! statements -/
theorem bS_ok {f : En → M α} {g : α → SM} {a : α} {o : Out} (h1 : f ρ S = .ok a S1) (h2 : g a ρ S1 = o) : bindS f g ρ S = o := by unfold bindS; rw [h1]; exact h2
theorem sq_nx {F G : SM} {ρ1 : En} {o : Out} (h1 : F ρ S = .nx ρ1 S1) (h2 : G ρ1 S1 = o) : seqS F G ρ S = o := by unfold seqS; rw [h1]; exact h2
theorem sq_rt {F G : SM} {d : D} (h1 : F ρ S = .rt d S1) : seqS F G ρ S = .rt d S1 := by unfold seqS; rw [h1]
theorem set_ok {i : Nat} {f : En → M D} {d : D} (h1 : f ρ S = .ok d S1) : setS i f ρ S = .nx (ρ.set i (some d)) S1 := bS_ok h1 rfl
theorem par_ok {i j : Nat} {f : En → M (List D)} {d e : D} (h1 : f ρ S = .ok [d, e] S1) : parS i j f ρ S = .nx ((ρ.set i (some d)).set j (some e)) S1 := bS_ok h1 rfl
theorem aug_ok {i : Nat} {op : D → D → Cells → Option D} {f : En → M D} {x y z : D} (h0 : rd ρ i S = .ok x S) (h1 : f ρ S = .ok y S1) (h2 : op x y S1 = some z) : augS i op f ρ S = .nx (ρ.set i (some z)) S1 := bS_ok (bd_ok h0 (bd_ok h1 (op_ok h2))) rfl
theorem exp_ok {f : En → M D} {d : D} (h1 : f ρ S = .ok d S1) : expS f ρ S = .nx ρ S1 := bS_ok h1 rfl
theorem ret_ok {f : En → M D} {d : D} (h1 : f ρ S = .ok d S1) : retS f ρ S = .rt d S1 := bS_ok h1 rfl
theorem if_t {c : En → M Bool} {F G : SM} {o : Out} (h1 : c ρ S = .ok true S1) (h2 : F ρ S1 = o) : ifS c F G ρ S = o := bS_ok h1 h2
theorem if_f {c : En → M Bool} {F G : SM} {o : Out} (h1 : c ρ S = .ok false S1) (h2 : G ρ S1 = o) : ifS c F G ρ S = o := bS_ok h1 h2
theorem for_ok {f : En → M (List D)} {p : Pat} {B : SM} {l : List D} {o : Out} (h1 : f ρ S = .ok l S1) (h2 : forD p B l ρ S1 = o) : forS f p B ρ S = o := bS_ok h1 h2
theorem sto_ok {f fo fi : En → M D} {y d k : D} {S4 : Cells} (h1 : f ρ S = .ok y S1) (h2 : fo ρ S1 = .ok d S2) (h3 : fi ρ S2 = .ok k S3) (h4 : setAtD d k y S3 = some S4) : stoS f fo fi ρ S = .nx ρ S4 := bS_ok h1 (bS_ok h2 (bS_ok h3 (by simp only [h4])))
/-! a def's end -/
theorem body_rt {N : Nat} {B : SM} {ds : List D} {d : D} (h : B (startD N ds) S = .rt d S1) (hf : d.flat = true) (hl : S1.take S.length = S) : bodyD N B ds S = .ok d S := by
  unfold bodyD
  rw [h]
  show retD S.length S1 (resv S.length S1 d) = _
  rw [resv_flat _ _ _ hf]
  show DL.R.ok d (S1.take S.length) = _
  rw [hl]
theorem body_rt' {N : Nat} {B : SM} {ds : List D} {d : D} (h : B (startD N ds) S = .rt d S1) (hf : d.flat = true) : bodyD N B ds S = .ok d (S1.take S.length) := by
  unfold bodyD
  rw [h]
  show retD S.length S1 (resv S.length S1 d) = _
  rw [resv_flat _ _ _ hf]
  rfl
/-- a changed list is handed back as a new one -/
theorem body_ref {N : Nat} {B : SM} {ds : List D} {n : Nat} {b : Bool} {l : List D} (h : B (startD N ds) S = .rt (.ref n) S1) (hn : S.length ≤ n) (hc : S1[n]? = some ⟨b, .lst l⟩) : bodyD N B ds S = .ok (.lst l) (S1.take S.length) := by
  unfold bodyD
  rw [h]
  show retD S.length S1 (resv S.length S1 (.ref n)) = _
  unfold resv
  rw [if_neg (by omega), hc]
  rfl
theorem bodyL_ref {N : Nat} {B : SM} {ds : List D} {n : Nat} {l : List D} (h : B (startD N ds) S = .rt (.ref n) S1) (hn : S.length ≤ n) (hc : S1[n]? = some ⟨true, .lst l⟩) : bodyL N B ds S = .ok l (S1.take S.length) := by
  unfold bodyL
  rw [h]
  show (if S.length ≤ n then (match S1[n]? with
    | some ⟨true, .lst l⟩ => .ok l (S1.take S.length)
    | _ => .stuck : DL.R (List D)) else .stuck) = _
  rw [if_pos hn, hc]
theorem body_nx {N : Nat} {B : SM} {ds : List D} {ρ1 : En} (h : B (startD N ds) S = .nx ρ1 S1) (hl : S1.take S.length = S) : bodyD N B ds S = .ok .non S := by
  unfold bodyD
  rw [h]
  show DL.R.ok D.non (S1.take S.length) = _
  rw [hl]
theorem take_same : S.take S.length = S := List.take_length
theorem take_more {l : Cells} : (S ++ l).take S.length = S := by rw [List.take_left']; rfl
theorem get_new {c : Cell} : (S ++ [c])[S.length]? = some c := by simp
/-- from a new list, in a def that hands it back at once -/
theorem bodyL_new {N : Nat} {B : SM} {ds l : List D} (h : B (startD N ds) S = .rt (.ref S.length) (S ++ [⟨true, .lst l⟩])) : bodyL N B ds S = .ok l S := by
  rw [bodyL_ref h (Nat.le_refl _) get_new, take_more]
/-! loops -/
theorem for_nil {p : Pat} {B : SM} : forD p B [] ρ S = .nx ρ S := rfl
theorem for_cons {p : Pat} {B : SM} {d : D} {ds : List D} {ρ1 ρ2 : En} {o : Out} (h1 : p.put d ρ = some ρ1) (h2 : B ρ1 S = .nx ρ2 S1) (h3 : forD p B ds ρ2 S1 = o) : forD p B (d :: ds) ρ S = o := by
  rw [forD_cons, h1]
  show stepD (forD p B ds) (B ρ1 S) = o
  rw [h2]
  exact h3
theorem for_cons_rt {p : Pat} {B : SM} {d e : D} {ds : List D} {ρ1 : En} (h1 : p.put d ρ = some ρ1) (h2 : B ρ1 S = .rt e S1) : forD p B (d :: ds) ρ S = .rt e S1 := by
  rw [forD_cons, h1]
  show stepD (forD p B ds) (B ρ1 S) = _
  rw [h2]
  rfl
/-- a loop that keeps an invariant, item by item -/
theorem for_I {p : Pat} {B : SM} {γ σ : Type} (enc : γ → D) (st : σ → γ → σ) (I : σ → En → Cells → Prop) (l : List γ)
    (h : ∀ a ∈ l, ∀ s ρ S, I s ρ S → ∃ ρ1 ρ2 S2, p.put (enc a) ρ = some ρ1 ∧ B ρ1 S = .nx ρ2 S2 ∧ I (st s a) ρ2 S2) :
    ∀ s ρ S, I s ρ S → ∃ ρ2 S2, forD p B (l.map enc) ρ S = .nx ρ2 S2 ∧ I (l.foldl st s) ρ2 S2 := by
  induction l with
  | nil => exact fun s ρ S i => ⟨ρ, S, rfl, i⟩
  | cons a l ih =>
    intro s ρ S i
    obtain ⟨ρ1, ρ2, S2, e1, e2, i2⟩ := h a List.mem_cons_self s ρ S i
    obtain ⟨ρ3, S3, e3, i3⟩ := ih (fun b hb => h b (List.mem_cons_of_mem _ hb)) _ _ _ i2
    exact ⟨ρ3, S3, for_cons e1 e2 e3, i3⟩
/-! comprehensions -/
theorem comp_nil {p : Pat} {ft : En → M Bool} {fe : En → M D} : compD p ft fe ρ [] S = .ok [] S := rfl
theorem comp_t {p : Pat} {ft : En → M Bool} {fe : En → M D} {d y : D} {ds l : List D} {ρ1 : En} (h1 : p.put d ρ = some ρ1) (h2 : ft ρ1 S = .ok true S1) (h3 : fe ρ1 S1 = .ok y S2) (h4 : compD p ft fe ρ ds S2 = .ok l S3) : compD p ft fe ρ (d :: ds) S = .ok (y :: l) S3 := by
  unfold compD
  rw [h1]
  show M.bind (calmM (ft ρ1)) _ S = _
  exact bd_ok (calm_of h2) (bd_ok (calm_of h3) (bd_ok h4 rfl))
theorem comp_f {p : Pat} {ft : En → M Bool} {fe : En → M D} {d : D} {ds : List D} {ρ1 : En} {r : R (List D)} (h1 : p.put d ρ = some ρ1) (h2 : ft ρ1 S = .ok false S1) (h4 : compD p ft fe ρ ds S1 = r) : compD p ft fe ρ (d :: ds) S = r := by
  unfold compD
  rw [h1]
  show M.bind (calmM (ft ρ1)) _ S = _
  exact bd_ok (calm_of h2) h4
theorem lc_mk {i : M (List D)} {p : Pat} {t : En → M Bool} {e : En → M D} {vs : List Nat} {items l : List D} (h1 : i S = .ok items S1) (h2 : compD p t e (wipeD ρ vs) items S1 = .ok l S2) : lcL i p t e ρ vs S = .ok l S2 := bd_ok h1 h2
/-- each item by a function -/
theorem comp_map {p : Pat} {fe : En → M D} {γ : Type} (enc : γ → D) (f : γ → D) (l : List γ) (h : ∀ a ∈ l, ∃ ρ1, p.put (enc a) ρ = some ρ1 ∧ fe ρ1 S = .ok (f a) S) : compD p (fun _ => yesM) fe ρ (l.map enc) S = .ok (l.map f) S := by
  induction l with
  | nil => rfl
  | cons a l ih =>
    obtain ⟨ρ1, e1, e2⟩ := h a List.mem_cons_self
    exact comp_t e1 rfl e2 (ih fun b hb => h b (List.mem_cons_of_mem _ hb))
theorem comp_filter {p : Pat} {ft : En → M Bool} {fe : En → M D} {γ : Type} (enc : γ → D) (t : γ → Bool) (f : γ → D) (l : List γ) (h : ∀ a ∈ l, ∃ ρ1, p.put (enc a) ρ = some ρ1 ∧ ft ρ1 S = .ok (t a) S ∧ (t a = true → fe ρ1 S = .ok (f a) S)) :
    compD p ft fe ρ (l.map enc) S = .ok ((l.filter t).map f) S := by
  induction l with
  | nil => rfl
  | cons a l ih =>
    obtain ⟨ρ1, e1, e2, e3⟩ := h a List.mem_cons_self
    have ih := ih fun b hb => h b (List.mem_cons_of_mem _ hb)
    cases ht : t a with
    | true =>
      rw [List.filter_cons_of_pos (by rw [ht])]
      rw [ht] at e2
      exact comp_t e1 e2 (e3 ht) ih
    | false =>
      rw [List.filter_cons_of_neg (by rw [ht]; simp)]
      rw [ht] at e2
      exact comp_f e1 e2 ih
/-- each item by a step that changes the store -/
theorem comp_I {p : Pat} {fe : En → M D} (J : Nat → Cells → Prop) (Q : D → Prop) : ∀ (ds : List D) (k : Nat) (S : Cells), J k S → (∀ d ∈ ds, ∀ k S, J k S → ∃ ρ1 y S2, p.put d ρ = some ρ1 ∧ fe ρ1 S = .ok y S2 ∧ Q y ∧ J (k + 1) S2) →
    ∃ l S2, compD p (fun _ => yesM) fe ρ ds S = .ok l S2 ∧ (∀ y ∈ l, Q y) ∧ l.length = ds.length ∧ J (k + ds.length) S2
  | [], k, S, j, _ => ⟨[], S, rfl, fun y h => by simp at h, rfl, j⟩
  | d :: ds, k, S, j, h => by
    obtain ⟨ρ1, y, S2, e1, e2, q, j2⟩ := h d List.mem_cons_self k S j
    obtain ⟨l, S3, e3, q3, n3, j3⟩ := comp_I J Q ds (k + 1) S2 j2 fun b hb => h b (List.mem_cons_of_mem _ hb)
    refine ⟨y :: l, S3, comp_t e1 rfl e2 e3, fun z hz => ?_, by simp [n3], ?_⟩
    · rcases List.mem_cons.mp hz with e | hz
      · rw [e]; exact q
      · exact q3 z hz
    · rw [List.length_cons, show k + (ds.length + 1) = k + 1 + ds.length by omega]
      exact j3
end
theorem bls?_all {l : List Bool} : (l.map D.bl).map id = l.map D.bl := by simp
end DL
end
section
set_option maxHeartbeats 0
/-! MScan: lists of scans as pairs of whole numbers: the addresses that they read, the tidy list. No program in sight. -/
namespace MS
abbrev P := Int × Int
/-- the addresses of a scan, in order -/
def rng (p : P) : List Int := if p.1 ≤ p.2 then (List.range (p.2 - p.1 + 1).toNat).map fun k => p.1 + (k : Nat) else (List.range (p.1 - p.2 + 1).toNat).map fun k => p.1 - (k : Nat)
def reads (l : List P) : List Int := l.flatMap rng
def dist (a b : Int) : Int := if a - b < 0 then -(a - b) else a - b
def touch (a b : Int) : Bool := decide (dist a b = 1)
theorem touch_iff {a b : Int} : touch a b = true ↔ a = b + 1 ∨ b = a + 1 := by
  unfold touch dist
  simp only [decide_eq_true_eq]
  split <;> omega
/-- one scan put behind -/
def stp (acc : List P) (p : P) : List P := match acc.getLast? with
  | some q => if touch q.2 p.1 = true then acc.dropLast ++ [(q.1, p.2)] else acc ++ [p]
  | none => acc ++ [p]
def tid (l : List P) : List P := l.foldl stp []
theorem stp_nil (p : P) : stp [] p = [p] := rfl
theorem stp_snoc (l : List P) (q p : P) : stp (l ++ [q]) p = if touch q.2 p.1 = true then l ++ [(q.1, p.2)] else l ++ [q, p] := by
  unfold stp
  simp
theorem stp_ne (l : List P) (p : P) : stp l p ≠ [] := by
  unfold stp
  split
  · split <;> simp
  · simp
def diag (a : Int) : P := (a, a)
theorem rng_up {a b : Int} (h : a ≤ b) : rng (a, b) = a :: (if a + 1 ≤ b then rng (a + 1, b) else []) := by
  unfold rng
  simp only [h, if_true]
  rw [show (b - a + 1).toNat = (b - a).toNat + 1 by omega, List.range_succ_eq_map, List.map_cons, List.map_map]
  split
  · rename_i h2
    rw [show (b - (a + 1) + 1).toNat = (b - a).toNat by omega]
    congr 1
    · simp
    · apply List.map_congr_left
      intro k _
      simp only [Function.comp, Nat.succ_eq_add_one]
      omega
  · rename_i h2
    rw [show (b - a).toNat = 0 by omega]
    simp
theorem rng_dn {a b : Int} (h : b < a) : rng (a, b) = a :: rng (a - 1, b) := by
  unfold rng
  rw [if_neg (by simp; omega)]
  by_cases h2 : a - 1 ≤ b
  · rw [if_pos (by simpa using h2)]
    simp only
    rw [show (a - b + 1).toNat = 2 by omega, show (b - (a - 1) + 1).toNat = 1 by omega]
    simp [List.range_succ]
    skip
  · rw [if_neg (by simpa using h2)]
    simp only
    rw [show (a - b + 1).toNat = (a - 1 - b + 1).toNat + 1 by omega, List.range_succ_eq_map, List.map_cons, List.map_map]
    congr 1
    · simp
    · apply List.map_congr_left
      intro k _
      simp only [Function.comp, Nat.succ_eq_add_one]
      omega
theorem rng_one (a : Int) : rng (a, a) = [a] := by
  rw [rng_up (Int.le_refl a), if_neg (by omega)]
/-- a run, one by one, behind a list that ends where the run begins -/
theorem run_up : ∀ (n : Nat) (a b : Int) (l : List P) (c : Int), (b - a).toNat = n → a ≤ b → ((rng (a, b)).map diag).foldl stp (l ++ [(c, a - 1)]) = l ++ [(c, b)]
  | 0, a, b, l, c, hn, h => by
    have e : a = b := by omega
    subst e
    rw [rng_one]
    show stp (l ++ [(c, a - 1)]) (a, a) = _
    rw [stp_snoc, if_pos (touch_iff.mpr (.inr (by show a = a - 1 + 1; omega)))]
  | n + 1, a, b, l, c, hn, h => by
    rw [rng_up h, if_pos (by omega), List.map_cons, List.foldl_cons]
    show List.foldl stp (stp (l ++ [(c, a - 1)]) (a, a)) _ = _
    rw [stp_snoc, if_pos (touch_iff.mpr (.inr (by show a = a - 1 + 1; omega)))]
    have := run_up n (a + 1) b l c (by omega) (by omega)
    rw [show a + 1 - 1 = a by omega] at this
    exact this
theorem run_dn : ∀ (n : Nat) (a b : Int) (l : List P) (c : Int), (a - b).toNat = n → b ≤ a → ((rng (a, b)).map diag).foldl stp (l ++ [(c, a + 1)]) = l ++ [(c, b)]
  | 0, a, b, l, c, hn, h => by
    have e : a = b := by omega
    subst e
    rw [rng_one]
    show stp (l ++ [(c, a + 1)]) (a, a) = _
    rw [stp_snoc, if_pos (touch_iff.mpr (.inl (by show a + 1 = a + 1; rfl)))]
  | n + 1, a, b, l, c, hn, h => by
    rw [rng_dn (by omega), List.map_cons, List.foldl_cons]
    show List.foldl stp (stp (l ++ [(c, a + 1)]) (a, a)) _ = _
    rw [stp_snoc, if_pos (touch_iff.mpr (.inl (by show a + 1 = a + 1; rfl)))]
    have := run_dn n (a - 1) b l c (by omega) (by omega)
    rw [show a - 1 + 1 = a by omega] at this
    exact this
/-- one run is one step -/
theorem run_step (acc : List P) (p : P) : ((rng p).map diag).foldl stp acc = stp acc p := by
  obtain ⟨a, b⟩ := p
  have first : ∃ l c, stp acc (a, a) = l ++ [(c, a)] ∧ stp acc (a, b) = l ++ [(c, b)] := by
    rcases List.eq_nil_or_concat acc with e | ⟨l, q, e⟩
    · subst e
      exact ⟨[], a, rfl, rfl⟩
    · rw [List.concat_eq_append] at e
      subst e
      rw [stp_snoc, stp_snoc]
      show ∃ l' c, (if touch q.2 a = true then _ else _) = _ ∧ (if touch q.2 a = true then _ else _) = _
      split
      · exact ⟨l, q.1, rfl, rfl⟩
      · exact ⟨l ++ [q], a, by simp, by simp⟩
  obtain ⟨l, c, e1, e2⟩ := first
  rw [e2]
  by_cases h : a ≤ b
  · rw [rng_up h, List.map_cons, List.foldl_cons]
    show List.foldl stp (stp acc (a, a)) _ = _
    rw [e1]
    split
    · rename_i h2
      have := run_up _ (a + 1) b l c rfl h2
      rw [show a + 1 - 1 = a by omega] at this
      exact this
    · have e : a = b := by omega
      subst e
      rfl
  · rw [rng_dn (by omega), List.map_cons, List.foldl_cons]
    show List.foldl stp (stp acc (a, a)) _ = _
    rw [e1]
    have := run_dn _ (a - 1) b l c rfl (by omega)
    rw [show a - 1 + 1 = a by omega] at this
    exact this
theorem tid_acc (l : List P) : ∀ acc, ((reads l).map diag).foldl stp acc = l.foldl stp acc := by
  induction l with
  | nil => intro acc; rfl
  | cons p l ih =>
    intro acc
    show ((rng p ++ reads l).map diag).foldl stp acc = _
    rw [List.map_append, List.foldl_append, run_step, ih]
    rfl
/-- address by address is scan by scan -/
theorem tid_reads (l : List P) : tid ((reads l).map diag) = tid l := tid_acc l []
/-! ### turned -/
def swp (p : P) : P := (p.2, p.1)
def rev (l : List P) : List P := (l.map swp).reverse
theorem rng_map_up (a b : Int) (h : a ≤ b) : rng (a, b) = (List.range (b - a + 1).toNat).map fun k => a + (k : Nat) := by unfold rng; rw [if_pos (by simpa using h)]
theorem rng_rev (p : P) : rng (swp p) = (rng p).reverse := by
  obtain ⟨a, b⟩ := p
  show rng (b, a) = _
  have key : ∀ (n : Nat) (a b : Int), (b - a).toNat = n → a ≤ b → rng (b, a) = (rng (a, b)).reverse := by
    intro n
    induction n with
    | zero =>
      intro a b hn h
      have e : a = b := by omega
      subst e
      rw [rng_one]
      rfl
    | succ n ih =>
      intro a b hn h
      rw [rng_dn (by omega), ih a (b - 1) (by omega) (by omega), rng_map_up a b h, rng_map_up a (b - 1) (by omega)]
      rw [show (b - a + 1).toNat = (b - 1 - a + 1).toNat + 1 by omega, List.range_succ, List.map_append, List.reverse_append]
      simp
      omega
  by_cases h : a ≤ b
  · exact key _ a b rfl h
  · rw [key _ b a rfl (by omega), List.reverse_reverse]
theorem reads_rev (l : List P) : reads (rev l) = (reads l).reverse := by
  induction l with
  | nil => rfl
  | cons p l ih =>
    show reads (((swp p) :: l.map swp).reverse) = (rng p ++ reads l).reverse
    rw [List.reverse_cons, List.reverse_append, ← ih, ← rng_rev]
    unfold reads rev
    rw [List.flatMap_append]
    simp
/-- a scan put ahead -/
def cns (p : P) (l : List P) : List P := match l with
  | q :: r => if touch p.2 q.1 = true then (p.1, q.2) :: r else p :: q :: r
  | [] => [p]
theorem touch_comm (a b : Int) : touch a b = touch b a := by
  rw [Bool.eq_iff_iff, touch_iff, touch_iff]
  omega
theorem stp_cons (p : P) (l : List P) (q : P) (h : l ≠ []) : stp (p :: l) q = p :: stp l q := by
  obtain ⟨m, x, e⟩ := (List.eq_nil_or_concat l).resolve_left h
  rw [List.concat_eq_append] at e
  subst e
  rw [show p :: (m ++ [x]) = (p :: m) ++ [x] from rfl, stp_snoc, stp_snoc]
  split <;> rfl
theorem cns_stp (p : P) (l : List P) (q : P) (h : l ≠ []) : stp (cns p l) q = cns p (stp l q) := by
  cases l with
  | nil => exact absurd rfl h
  | cons x r =>
    cases r with
    | nil =>
      show stp (if touch p.2 x.1 = true then [(p.1, x.2)] else [p, x]) q = cns p (stp ([] ++ [x]) q)
      rw [stp_snoc]
      by_cases h1 : touch p.2 x.1 = true
      · rw [if_pos h1]
        rw [show [(p.1, x.2)] = [] ++ [(p.1, x.2)] from rfl, stp_snoc]
        by_cases h2 : touch x.2 q.1 = true
        · rw [if_pos h2, if_pos h2]
          show _ = (if touch p.2 x.1 = true then _ else _)
          rw [if_pos h1]
          rfl
        · rw [if_neg h2, if_neg h2]
          show _ = (if touch p.2 x.1 = true then _ else _)
          rw [if_pos h1]
          rfl
      · rw [if_neg h1]
        rw [show [p, x] = [p] ++ [x] from rfl, stp_snoc]
        by_cases h2 : touch x.2 q.1 = true
        · rw [if_pos h2, if_pos h2]
          show _ = (if touch p.2 x.1 = true then _ else _)
          rw [if_neg h1]
          rfl
        · rw [if_neg h2, if_neg h2]
          show _ = (if touch p.2 x.1 = true then _ else _)
          rw [if_neg h1]
          rfl
    | cons y r =>
      rw [stp_cons x (y :: r) q (by simp)]
      show stp (if touch p.2 x.1 = true then (p.1, x.2) :: y :: r else p :: x :: y :: r) q = (if touch p.2 x.1 = true then (p.1, x.2) :: stp (y :: r) q else p :: x :: stp (y :: r) q)
      split
      · rw [stp_cons _ _ _ (by simp)]
      · rw [stp_cons _ _ _ (by simp), stp_cons _ _ _ (by simp)]
theorem fold_cns (p : P) : ∀ (l : List P) (acc : List P), acc ≠ [] → l.foldl stp (cns p acc) = cns p (l.foldl stp acc)
  | [], _, _ => rfl
  | q :: l, acc, h => by
    rw [List.foldl_cons, List.foldl_cons, cns_stp p acc q h, fold_cns p l _ (stp_ne _ _)]
theorem tid_cons (p : P) (l : List P) : tid (p :: l) = cns p (tid l) := by
  cases l with
  | nil => rfl
  | cons q l =>
    show List.foldl stp (stp [p] q) l = cns p (List.foldl stp [q] l)
    rw [← fold_cns p l [q] (by simp)]
    rfl
theorem tid_snoc (l : List P) (p : P) : tid (l ++ [p]) = stp (tid l) p := by
  unfold tid
  rw [List.foldl_append]
  rfl
theorem rev_cons (p : P) (l : List P) : rev (p :: l) = rev l ++ [swp p] := by simp [rev]
theorem rev_snoc (l : List P) (p : P) : rev (l ++ [p]) = swp p :: rev l := by simp [rev]
theorem stp_rev (p : P) (l : List P) : stp (rev l) (swp p) = rev (cns p l) := by
  cases l with
  | nil => rfl
  | cons q r =>
    rw [rev_cons, stp_snoc]
    show (if touch q.1 p.2 = true then _ else _) = rev (if touch p.2 q.1 = true then _ else _)
    rw [touch_comm]
    split
    · rw [rev_cons]
      rfl
    · rw [rev_cons, rev_cons, List.append_assoc]
      rfl
/-- the tidy list of the turned one -/
theorem tid_rev (l : List P) : tid (rev l) = rev (tid l) := by
  induction l with
  | nil => rfl
  | cons p l ih => rw [rev_cons, tid_snoc, ih, stp_rev, tid_cons]
/-! ### valid lists -/
structure Valid (l : List P) : Prop where
  nn : ∀ p ∈ l, 0 ≤ p.1 ∧ 0 ≤ p.2
  nd : (reads l).Nodup
theorem mem_rng {p : P} {a : Int} : a ∈ rng p ↔ (p.1 ≤ a ∧ a ≤ p.2) ∨ (p.2 ≤ a ∧ a ≤ p.1) := by
  obtain ⟨x, y⟩ := p
  unfold rng
  split
  · rename_i h
    simp only at h
    simp only [List.mem_map, List.mem_range]
    constructor
    · rintro ⟨k, hk, rfl⟩
      left
      omega
    · intro h2
      refine ⟨(a - x).toNat, by omega, by omega⟩
  · rename_i h
    simp only at h
    simp only [List.mem_map, List.mem_range]
    constructor
    · rintro ⟨k, hk, rfl⟩
      right
      omega
    · intro h2
      refine ⟨(x - a).toNat, by omega, by omega⟩
theorem rng_nodup (p : P) : (rng p).Nodup := by
  unfold rng
  split
  · exact List.Pairwise.map _ (fun i j h => by omega) List.nodup_range
  · exact List.Pairwise.map _ (fun i j h => by omega) List.nodup_range
theorem mem_reads {l : List P} {a : Int} : a ∈ reads l ↔ ∃ p ∈ l, a ∈ rng p := by simp [reads]
/-- reads of what is joined -/
theorem rng_join {a b c d : Int} (ht : touch b c = true) (hd : ∀ x, x ∈ rng (a, b) → x ∉ rng (c, d)) : rng (a, d) = rng (a, b) ++ rng (c, d) := by
  have hb : b ∈ rng (a, b) := mem_rng.mpr (by simp; omega)
  have nb := hd b hb
  have ha : a ∈ rng (a, b) := mem_rng.mpr (by simp; omega)
  have hc : c ∈ rng (c, d) := mem_rng.mpr (by simp; omega)
  have na : c ∉ rng (a, b) := fun z => hd c z hc
  have nb : ¬((c ≤ b ∧ b ≤ d) ∨ (d ≤ b ∧ b ≤ c)) := fun z => nb (mem_rng.mpr z)
  have na : ¬((a ≤ c ∧ c ≤ b) ∨ (b ≤ c ∧ c ≤ a)) := fun z => na (mem_rng.mpr z)
  rcases touch_iff.mp ht with e | e
  · -- going down: b = c + 1
    subst e
    have h1 : c + 1 ≤ a := by omega
    have h2 : d ≤ c := by omega
    have key : ∀ (n : Nat) (a : Int), (a - (c + 1)).toNat = n → c + 1 ≤ a → rng (a, d) = rng (a, c + 1) ++ rng (c, d) := by
      intro n
      induction n with
      | zero =>
        intro a hn h
        have e : a = c + 1 := by omega
        subst e
        rw [rng_one, rng_dn (by omega), show c + 1 - 1 = c by omega]
        rfl
      | succ n ih =>
        intro a hn h
        rw [rng_dn (by omega), ih (a - 1) (by omega) (by omega), rng_dn (a := a) (b := c + 1) (by omega)]
        rfl
    exact key _ a rfl h1
  · subst e
    have h1 : a ≤ b := by omega
    have h2 : b + 1 ≤ d := by omega
    have key : ∀ (n : Nat) (a : Int), (b - a).toNat = n → a ≤ b → rng (a, d) = rng (a, b) ++ rng (b + 1, d) := by
      intro n
      induction n with
      | zero =>
        intro a hn h
        have e : a = b := by omega
        subst e
        rw [rng_one, rng_up (by omega), if_pos (by omega)]
        rfl
      | succ n ih =>
        intro a hn h
        rw [rng_up (by omega), if_pos (by omega), ih (a + 1) (by omega) (by omega), rng_up (a := a) (b := b) (by omega), if_pos (by omega)]
        rfl
    exact key _ a rfl h1
theorem reads_app (l m : List P) : reads (l ++ m) = reads l ++ reads m := by simp [reads]
theorem reads_one (p : P) : reads [p] = rng p := by simp [reads]
theorem reads_stp (acc : List P) (p : P) (h : (reads acc ++ rng p).Nodup) : reads (stp acc p) = reads acc ++ rng p := by
  rcases List.eq_nil_or_concat acc with e | ⟨l, q, e⟩
  · subst e
    rw [stp_nil, reads_one]
    rfl
  · rw [List.concat_eq_append] at e
    subst e
    rw [stp_snoc]
    split
    · rename_i ht
      rw [reads_app, reads_app, reads_one, reads_one, List.append_assoc]
      congr 1
      obtain ⟨a, b⟩ := q
      obtain ⟨c, d⟩ := p
      refine rng_join ht fun x hx hy => ?_
      rw [reads_app, reads_one] at h
      have := (List.nodup_append.mp h).2.2 x (List.mem_append_right _ hx) x hy
      exact this rfl
    · rw [show l ++ [q, p] = (l ++ [q]) ++ [p] by simp, reads_app, reads_one]
theorem reads_fold : ∀ (l acc : List P), (reads acc ++ reads l).Nodup → reads (l.foldl stp acc) = reads acc ++ reads l
  | [], acc, _ => by simp [reads]
  | p :: l, acc, h => by
    have e : reads (p :: l) = rng p ++ reads l := rfl
    rw [e, ← List.append_assoc] at h
    have h1 : (reads acc ++ rng p).Nodup := (List.nodup_append.mp h).1
    rw [List.foldl_cons, reads_fold l (stp acc p) (by rw [reads_stp _ _ h1]; exact h), reads_stp _ _ h1, e, List.append_assoc]
theorem reads_tid {l : List P} (h : (reads l).Nodup) : reads (tid l) = reads l := by
  exact reads_fold l [] h
theorem tid_tid {l : List P} (h : (reads l).Nodup) : tid (tid l) = tid l := by rw [← tid_reads (tid l), reads_tid h, tid_reads]
theorem end_mem (p : P) : p.1 ∈ rng p ∧ p.2 ∈ rng p := ⟨mem_rng.mpr (by omega), mem_rng.mpr (by omega)⟩
theorem Valid.all {l : List P} (h : Valid l) : ∀ a ∈ reads l, 0 ≤ a := fun a ha => by
  obtain ⟨p, hp, hr⟩ := mem_reads.mp ha
  obtain ⟨h1, h2⟩ := h.nn p hp
  rcases mem_rng.mp hr with ⟨h3, h4⟩ | ⟨h3, h4⟩ <;> omega
theorem Valid.tid {l : List P} (h : Valid l) : Valid (tid l) := by
  refine ⟨fun p hp => ?_, by rw [reads_tid h.nd]; exact h.nd⟩
  have m : ∀ a ∈ rng p, a ∈ reads l := fun a ha => by
    rw [← reads_tid h.nd]
    exact mem_reads.mpr ⟨p, hp, ha⟩
  exact ⟨h.all _ (m _ (end_mem p).1), h.all _ (m _ (end_mem p).2)⟩
theorem Valid.perm {l m : List P} (h : Valid l) (p : l.Perm m) : Valid m :=
  ⟨fun q hq => h.nn q (p.mem_iff.mpr hq), (p.flatMap_right rng).nodup_iff.mp h.nd⟩
theorem Valid.nil : Valid [] := ⟨fun p h => by simp at h, List.nodup_nil⟩
theorem rng_len (p : P) : ((rng p).length : Int) = dist p.2 p.1 + 1 := by
  obtain ⟨a, b⟩ := p
  unfold rng dist
  split
  · rename_i h
    simp only at h
    simp only [List.length_map, List.length_range]
    split <;> omega
  · rename_i h
    simp only at h
    simp only [List.length_map, List.length_range]
    split <;> omega
theorem reads_len (l : List P) : ((reads l).length : Int) = (l.map fun p => dist p.2 p.1 + 1).sum := by
  induction l with
  | nil => rfl
  | cons p l ih =>
    show ((rng p ++ reads l).length : Int) = _
    rw [List.length_append, List.map_cons, List.sum_cons, ← ih, ← rng_len]
    omega
/-! ### the tidy list by its begins -/
def z : P := (0, 0)
def tst (l : List P) (k : Nat) : Bool := k == 0 || !touch (l.getD (k - 1) z).2 (l.getD k z).1
def begs (l : List P) : List Nat := (List.range l.length).filter (tst l)
def prs : List Nat → Nat → List (Nat × Nat)
  | [], _ => []
  | [b], n => [(b, n)]
  | b :: c :: r, n => (b, c) :: prs (c :: r) n
theorem prs_zip : ∀ (bs : List Nat) (n : Nat), bs.zip (bs.drop 1 ++ [n]) = prs bs n
  | [], _ => rfl
  | [b], n => rfl
  | b :: c :: r, n => by
    have ih := prs_zip (c :: r) n
    show (b, c) :: (c :: r).zip (r ++ [n]) = (b, c) :: prs (c :: r) n
    rw [← ih]
    rfl
theorem prs_snoc : ∀ (bs : List Nat) (b n : Nat), prs (bs ++ [b]) n = prs bs b ++ [(b, n)]
  | [], _, _ => rfl
  | [c], b, n => rfl
  | c :: d :: r, b, n => by
    have ih := prs_snoc (d :: r) b n
    show (c, d) :: prs ((d :: r) ++ [b]) n = (c, d) :: prs (d :: r) b ++ [(b, n)]
    rw [ih]
    rfl
theorem prs_mem : ∀ (bs : List Nat) (n : Nat) (q : Nat × Nat), q ∈ prs bs n → q.1 ∈ bs ∧ (q.2 ∈ bs ∨ q.2 = n)
  | [], _, q, h => by simp [prs] at h
  | [b], n, q, h => by
    simp [prs] at h
    subst h
    simp
  | b :: c :: r, n, q, h => by
    rcases List.mem_cons.mp h with e | h
    · subst e
      simp
    · obtain ⟨h1, h2⟩ := prs_mem (c :: r) n q h
      exact ⟨List.mem_cons_of_mem _ h1, h2.imp (List.mem_cons_of_mem _) fun e => e⟩
def pick (l : List P) (q : Nat × Nat) : P := ((l.getD q.1 z).1, (l.getD (q.2 - 1) z).2)
theorem begs_snoc (l : List P) (p : P) : begs (l ++ [p]) = begs l ++ if tst (l ++ [p]) l.length = true then [l.length] else [] := by
  unfold begs
  rw [List.length_append, List.length_singleton, List.range_succ, List.filter_append]
  congr 1
  · apply List.filter_congr
    intro k hk
    rw [List.mem_range] at hk
    unfold tst
    rw [List.getD_eq_getElem?_getD, List.getD_eq_getElem?_getD, List.getD_eq_getElem?_getD, List.getD_eq_getElem?_getD, List.getElem?_append_left (by omega), List.getElem?_append_left (by omega)]
  · by_cases h : tst (l ++ [p]) l.length = true
    · rw [if_pos h, List.filter_cons_of_pos h]
      rfl
    · rw [if_neg h, List.filter_cons_of_neg h]
      rfl
theorem begs_lt {l : List P} {b : Nat} (h : b ∈ begs l) : b < l.length := by
  unfold begs at h
  exact List.mem_range.mp (List.mem_filter.mp h).1
theorem begs_ne {l : List P} (h : l ≠ []) : begs l ≠ [] := fun e => by
  have m : 0 ∈ begs l := by
    unfold begs
    rw [List.mem_filter, List.mem_range]
    exact ⟨List.length_pos_iff.mpr h, rfl⟩
  rw [e] at m
  simp at m
theorem pick_app {l : List P} {p : P} {q : Nat × Nat} (h1 : q.1 < l.length) (h2 : q.2 - 1 < l.length) : pick (l ++ [p]) q = pick l q := by
  unfold pick
  rw [List.getD_eq_getElem?_getD, List.getD_eq_getElem?_getD, List.getD_eq_getElem?_getD, List.getD_eq_getElem?_getD, List.getElem?_append_left h1, List.getElem?_append_left h2]
theorem getD_last (l : List P) (p : P) : (l ++ [p]).getD l.length z = p := by simp [List.getD_eq_getElem?_getD]
theorem snoc_ind {α : Type} {C : List α → Prop} (h0 : C []) (h1 : ∀ l a, C l → C (l ++ [a])) (l : List α) : C l := by
  have key : ∀ m : List α, C m.reverse := fun m => by
    induction m with
    | nil => exact h0
    | cons a m ih =>
      rw [List.reverse_cons]
      exact h1 _ _ ih
  have := key l.reverse
  rwa [List.reverse_reverse] at this
theorem begs_tid (l : List P) : (prs (begs l) l.length).map (pick l) = tid l ∧ (∀ q, (tid l).getLast? = some q → q.2 = (l.getD (l.length - 1) z).2) := by
  induction l using snoc_ind with
  | h0 => exact ⟨rfl, fun q e => by simp [tid] at e⟩
  | h1 l p ih =>
    obtain ⟨ih, il⟩ := ih
    rw [tid_snoc, begs_snoc, List.length_append, List.length_singleton]
    rcases List.eq_nil_or_concat l with e | ⟨m, x, e⟩
    · subst e
      refine ⟨rfl, fun q e => ?_⟩
      have e : ([p] : List P).getLast? = some q := e
      simp at e
      subst e
      rfl
    · have hne : l ≠ [] := by subst e; simp
      have hpos : 0 < l.length := List.length_pos_iff.mpr hne
      have tn : tst (l ++ [p]) l.length = !touch (l.getD (l.length - 1) z).2 p.1 := by
        unfold tst
        rw [getD_last, List.getD_eq_getElem?_getD, List.getElem?_append_left (by omega), ← List.getD_eq_getElem?_getD]
        have : (l.length == 0) = false := by simp; exact hne
        rw [this]
        rfl
      obtain ⟨bs, b, eb⟩ := (List.eq_nil_or_concat (begs l)).resolve_left (begs_ne hne)
      rw [List.concat_eq_append] at eb
      have inb : ∀ c ∈ bs ++ [b], c < l.length := fun c hc => begs_lt (by rw [eb]; exact hc)
      have lt : tid l = (prs bs b).map (pick l) ++ [((l.getD b z).1, (l.getD (l.length - 1) z).2)] := by
        rw [← ih, eb, prs_snoc, List.map_append]
        rfl
      have old : (prs bs b).map (pick (l ++ [p])) = (prs bs b).map (pick l) := by
        apply List.map_congr_left
        intro q hq
        obtain ⟨h1, h2⟩ := prs_mem _ _ _ hq
        have h1' := inb q.1 (List.mem_append_left _ h1)
        refine pick_app h1' ?_
        rcases h2 with h2 | h2
        · have := inb q.2 (List.mem_append_left _ h2)
          omega
        · have := inb b (by simp)
          omega
      have hb := inb b (by simp)
      have gb : (l ++ [p]).getD b z = l.getD b z := by
        rw [List.getD_eq_getElem?_getD, List.getElem?_append_left hb, ← List.getD_eq_getElem?_getD]
      by_cases ht : touch (l.getD (l.length - 1) z).2 p.1 = true
      · have tf : ¬ tst (l ++ [p]) l.length = true := by rw [tn, ht]; simp
        rw [if_neg tf, List.append_nil, eb, prs_snoc, List.map_append, old, lt, stp_snoc, if_pos ht]
        refine ⟨?_, fun q e => ?_⟩
        · congr 1
          show [pick (l ++ [p]) (b, l.length + 1)] = _
          unfold pick
          simp only [Nat.add_sub_cancel]
          rw [getD_last, gb]
        · rw [List.getLast?_concat] at e
          cases e
          simp only [Nat.add_sub_cancel]
          rw [getD_last]
      · have tt : tst (l ++ [p]) l.length = true := by rw [tn]; simpa using ht
        rw [if_pos tt, prs_snoc, List.map_append, eb, prs_snoc, List.map_append, old, lt, stp_snoc, if_neg ht]
        refine ⟨?_, fun q e => ?_⟩
        · have e1 : pick (l ++ [p]) (b, l.length) = ((l.getD b z).1, (l.getD (l.length - 1) z).2) := pick_app hb (by show l.length - 1 < l.length; omega)
          have e2 : pick (l ++ [p]) (l.length, l.length + 1) = p := by
            unfold pick
            simp only [Nat.add_sub_cancel]
            rw [getD_last]
          simp only [List.map_cons, List.map_nil, e1, e2, List.append_assoc]
          rfl
        · rw [show ∀ (A : List P) (u v : P), A ++ [u, v] = (A ++ [u]) ++ [v] from fun A u v => by simp, List.getLast?_concat] at e
          cases e
          simp only [Nat.add_sub_cancel]
          rw [getD_last]
end MS
end
section
set_option maxHeartbeats 4000000
/-! DLn: data of numbers, pairs, lists of pairs; the laws' bag of draws. -/
namespace DL
open PySem PySem.Spec L2
open PyProof.Rows hiding St
section
variable {S S1 : Cells}
theorem dEq_int {i j : Int} : dEq (.int i) (.int j) S = some (.bl (decide (i = j))) := by
  show some (D.bl (i == j)) = _
  have : (i == j) = decide (i = j) := by rw [Bool.eq_iff_iff]; simp
  rw [this]
theorem dNe_int {i j : Int} : dNe (.int i) (.int j) S = some (.bl (!decide (i = j))) := by
  show some (D.bl (!(i == j))) = _
  have : (i == j) = decide (i = j) := by rw [Bool.eq_iff_iff]; simp
  rw [this]
def pyP (p : MS.P) : PyData := .tuple [.int p.1, .int p.2]
theorem toPyP (l : List MS.P) : toPyL (l.map encP) = some (l.map pyP) := by
  induction l with
  | nil => rfl
  | cons p l ih =>
    show (match toPy (encP p), toPyL (l.map encP) with
      | some e, some es => some (e :: es)
      | _, _ => none) = _
    rw [ih]
    rfl
theorem resv_ps (n0 : Nat) (l : List MS.P) : resvL n0 S (l.map encP) = some (l.map encP) := by
  induction l with
  | nil => rfl
  | cons p l ih =>
    show (match resv n0 S (encP p), resvL n0 S (l.map encP) with
      | some d', some ds' => some (d' :: ds')
      | _, _ => none) = _
    rw [ih]
    rfl
theorem flat_encP (p : MS.P) : (encP p).flat = true := by
  show (D.tup [.int p.1, .int p.2]).flat = true
  rw [flat_tup]
  simp [flatL]
theorem flatL_ps (l : List MS.P) : flatL (l.map encP) = true := by
  unfold flatL
  rw [List.all_map, List.all_eq_true]
  exact fun p _ => flat_encP p
theorem flat_ps (l : List MS.P) : (D.lst (l.map encP)).flat = true := by rw [flat_lst, flatL_ps]
theorem lay_ps (l : List MS.P) : PyData.canLayAll0 (l.map pyP) = true := by
  induction l with
  | nil => rfl
  | cons p l ih =>
    show (PyData.canLay0 (pyP p) && PyData.canLayAll0 (l.map pyP)) = true
    rw [ih]
    rfl
theorem depth_ps (l : List MS.P) : PyData.depthAll (l.map pyP) ≤ 1 := by
  induction l with
  | nil => exact Nat.zero_le _
  | cons p l ih =>
    show max (PyData.depth (pyP p)) (PyData.depthAll (l.map pyP)) ≤ 1
    have : PyData.depth (pyP p) = 1 := rfl
    omega
theorem shaped_ps (l : List MS.P) : SeqAt.shaped (.list (l.map pyP)) = true := by
  show (PyData.canLayAll0 (l.map pyP) && decide (PyData.depthAll (l.map pyP) + 1 ≤ 64)) = true
  rw [lay_ps, decide_eq_true (by have := depth_ps l; omega)]
  rfl
theorem eqv_ps : ∀ (l m : List MS.P), PyData.eqvAll (l.map pyP) (m.map pyP) = decide (l = m)
  | [], [] => rfl
  | [], _ :: _ => rfl
  | _ :: _, [] => rfl
  | p :: l, q :: m => by
    show (((p.1 == q.1) && ((p.2 == q.2) && true)) && PyData.eqvAll (l.map pyP) (m.map pyP)) = _
    rw [eqv_ps l m, Bool.eq_iff_iff]
    obtain ⟨a, b⟩ := p
    obtain ⟨c, d⟩ := q
    simp
theorem vw_ps (l : List MS.P) : vw S (.lst (l.map encP)) = some (.list (l.map pyP)) := by
  unfold vw
  show (match resvL 0 S (l.map encP) with
    | some l' => some (D.lst l')
    | none => none).bind toPy = _
  rw [resv_ps]
  show (match toPyL (l.map encP) with
    | some m => some (PyData.list m)
    | none => none) = _
  rw [toPyP]
theorem eqP_of {d1 d2 : D} {p q : PyData} (h1 : vw S d1 = some p) (h2 : vw S d2 = some q) (s1 : SeqAt.shaped p = true) (s2 : SeqAt.shaped q = true) : eqP d1 d2 S = some (PyData.eqv p q) := by
  unfold eqP
  rw [h1, h2]
  exact if_pos ⟨s1, s2⟩
theorem dEq_ps (l m : List MS.P) : dEq (.lst (l.map encP)) (.lst (m.map encP)) S = some (.bl (decide (l = m))) := by
  show (eqP _ _ S).map D.bl = _
  rw [eqP_of (vw_ps l) (vw_ps m) (shaped_ps l) (shaped_ps m)]
  show some (D.bl (PyData.eqvAll _ _)) = _
  rw [eqv_ps]
theorem vw_ref {n : Nat} {b : Bool} {l : List MS.P} (h : S[n]? = some ⟨b, .lst (l.map encP)⟩) : vw S (.ref n) = some (.list (l.map pyP)) := by
  unfold vw resv
  rw [if_neg (by omega), h]
  show (match toPyL (l.map encP) with
    | some m => some (PyData.list m)
    | none => none) = _
  rw [toPyP]
theorem dNe_nil {n : Nat} {b : Bool} {l : List MS.P} (h : S[n]? = some ⟨b, .lst (l.map encP)⟩) : dNe (.ref n) (.lst []) S = some (.bl (!l.isEmpty)) := by
  show (eqP _ (.lst (([] : List MS.P).map encP)) S).map (fun b => D.bl (!b)) = _
  rw [eqP_of (vw_ref h) (vw_ps []) (shaped_ps l) (shaped_ps [])]
  show some (D.bl (!PyData.eqvAll _ _)) = _
  rw [eqv_ps]
  cases l <;> rfl
/-! lists and cells by place -/
theorem seqL_ref {n : Nat} {b : Bool} {l : List D} (h : S[n]? = some ⟨b, .lst l⟩) : seqL S (.ref n) = some l := by
  show (match S[n]? with
    | some ⟨_, .lst l⟩ => some l
    | _ => none) = _
  rw [h]
theorem ix_ref {n : Nat} {b : Bool} {l : List D} {k : Int} {d : D} (h : S[n]? = some ⟨b, .lst l⟩) (e : atI l k = some d) : ixD (.ref n) (.int k) S = some d := by
  show (seqL S (.ref n)).bind (fun l => atI l k) = _
  rw [seqL_ref h]
  exact e
theorem len_ref {n : Nat} {b : Bool} {l : List D} (h : S[n]? = some ⟨b, .lst l⟩) : dLen [.ref n] S = some (.int l.length) := by
  show (seqL S (.ref n)).map (fun l => D.int l.length) = _
  rw [seqL_ref h]
  rfl
theorem live_ref {n : Nat} {l : List D} (h : S[n]? = some ⟨true, .lst l⟩) : liveL (.ref n) S = some (n, l) := by
  show (match S[n]? with
    | some ⟨true, .lst l⟩ => some (n, l)
    | _ => none) = _
  rw [h]
theorem set_ref {n j : Nat} {l : List D} {k : Int} {y : D} (h : S[n]? = some ⟨true, .lst l⟩) (e : ixN l.length k = some j) (hf : y.flat = true) : setAtD (.ref n) (.int k) y S = some (S.set n ⟨true, .lst (l.set j y)⟩) := by
  unfold setAtD
  rw [live_ref h]
  show (match ixN l.length k with
    | some j => if y.flat = true then some (S.set n ⟨true, .lst (l.set j y)⟩) else none
    | none => none) = _
  rw [e]
  exact if_pos hf
theorem ty_ref {n : Nat} {b : Bool} {l : List D} (h : S[n]? = some ⟨b, .lst l⟩) : isTy "list" (.ref n) S = some () := by
  show (if "list" = "list" ∧ (seqL S (.ref n)).isSome = true then some () else none) = _
  rw [seqL_ref h]
  exact if_pos ⟨rfl, rfl⟩
theorem app_ref {n : Nat} {l : List D} {y : D} (h : S[n]? = some ⟨true, .lst l⟩) (hf : y.flat = true) (hz : l.length < sizeLine) : mAppend (.ref n) [y] S = some (.non, S.set n ⟨true, .lst (l ++ [y])⟩) := by
  unfold mAppend
  rw [live_ref h]
  exact if_pos ⟨hf, hz⟩
theorem get_set {n : Nat} {c c' : Cell} (h : S[n]? = some c) : (S.set n c')[n]? = some c' := by
  rw [List.getElem?_set_self (List.getElem?_eq_some_iff.mp h).1]
theorem get_set_ne {n m : Nat} {c' : Cell} (h : n ≠ m) : (S.set n c')[m]? = S[m]? := List.getElem?_set_ne h
theorem okMul_of {i j : Int} (a b : Nat) (hi : i.natAbs < 2 ^ a) (hj : j.natAbs < 2 ^ b) (h : a + b ≤ 999999) (ha : 0 < a := by decide) (hb : 0 < b := by decide) : okMul i j = true := by
  unfold okMul
  have h1 := PySem.Flt.log2_lt_of ha hi
  have h2 := PySem.Flt.log2_lt_of hb hj
  exact decide_eq_true (by omega)
theorem dMul_ok {i j : Int} (h : okMul i j = true) : dMul (.int i) (.int j) S = some (.int (i * j)) := if_pos h
theorem dDiv_ok {i j : Int} (h : 0 < j) (h2 : j.natAbs < 2 ^ 8999) : dDiv (.int i) (.int j) S = some (.int (i / j)) := if_pos ⟨h, Nat.lt_of_lt_of_le (PySem.Flt.log2_lt_of (by decide) h2) (by decide)⟩
theorem dMod_ok {i j : Int} (h : 0 < j) : dMod (.int i) (.int j) S = some (.int (i % j)) := if_pos h
/-! ranges -/
theorem range1_ok {n : Nat} (h : n ≤ sizeLine) : range1 [.int (n : Int)] = some ((List.range n).map fun i => D.int (i : Nat)) := by
  show rangeD 0 (n : Int) = _
  unfold rangeD
  have hz : sizeLine = 16777216 := by decide
  rw [if_pos ⟨⟨by omega, by omega, by omega, by omega⟩, by omega⟩]
  simp
theorem range_down {n : Nat} : List.range (n + 1) = List.range n ++ [n] := List.range_succ
theorem rangeA_rng {p : MS.P} {s : Int} (h0 : 0 ≤ p.1 ∧ 0 ≤ p.2) (h1 : p.1 < 1000000 ∧ p.2 < 1000000) (hs : s = if p.1 ≤ p.2 then 1 else -1) : rangeA [.int p.1, .int (p.2 + s), .int s] = some ((MS.rng p).map .int) := by
  obtain ⟨a, b⟩ := p
  simp only at h0 h1 hs ⊢
  show rangeC a (b + s) s = _
  have hz : sizeLine = 16777216 := by decide
  by_cases h : a ≤ b
  · rw [if_pos h] at hs
    subst hs
    have sz : Builtin.Range.rangeSize a (b + 1) 1 = b - a + 1 := by
      unfold Builtin.Range.rangeSize
      rw [if_pos (by omega), if_pos (by omega), Int.ediv_one]
      omega
    have ok : okR a (b + 1) 1 = true := by
      unfold okR Builtin.Range.small
      rw [sz]
      have f : ∀ i : Int, 0 ≤ i → i < 2000000 → Builtin.Range.rangeFitsLong i = true := fun i h1 h2 => by
        unfold Builtin.Range.rangeFitsLong
        rw [decide_eq_true (by omega), decide_eq_true (by omega)]
        rfl
      rw [f a (by omega) (by omega), f (b + 1) (by omega) (by omega), f 1 (by omega) (by omega), f (b - a + 1) (by omega) (by omega)]
      simp only [f (b + 1 + (1 - 1)) (by omega) (by omega)]
      simp
      omega
    unfold rangeC
    rw [if_pos ok, sz]
    unfold MS.rng
    rw [if_pos (by simpa using h)]
    simp
  · rw [if_neg h] at hs
    subst hs
    have sz : Builtin.Range.rangeSize a (b + -1) (-1) = a - b + 1 := by
      unfold Builtin.Range.rangeSize
      rw [if_neg (by omega), if_pos (by omega)]
      simp
      omega
    have ok : okR a (b + -1) (-1) = true := by
      unfold okR Builtin.Range.small
      rw [sz]
      have f : ∀ i : Int, -10 ≤ i → i < 2000000 → Builtin.Range.rangeFitsLong i = true := fun i h1 h2 => by
        unfold Builtin.Range.rangeFitsLong
        rw [decide_eq_true (by omega), decide_eq_true (by omega)]
        rfl
      rw [f a (by omega) (by omega), f (b + -1) (by omega) (by omega), f (-1) (by omega) (by omega), f (a - b + 1) (by omega) (by omega)]
      simp only [f (b + -1 + (-1 + 1)) (by omega) (by omega)]
      simp
      omega
    unfold rangeC
    rw [if_pos ok, sz]
    unfold MS.rng
    rw [if_neg (by simpa using h)]
    simp only [List.map_map]
    congr 1
    apply List.map_congr_left
    intro k _
    show D.int (a + (k : Int) * -1) = D.int (a - (k : Int))
    congr 1
    omega
/-! sorted pairs, min, max -/
theorem sortD_ps (ps : List MS.P) : sortD [.lst (ps.map encP)] S = some ((sortP ps).map encP) := by
  unfold sortD
  show (match ints? (ps.map encP) with
    | some ns => some ((sortI ns).map D.int)
    | none => match pairs? (ps.map encP) with
      | some ps => some ((sortP ps).map encP)
      | none => none) = _
  cases ps with
  | nil => simp [ints?, sortI, sortP]
  | cons p ps =>
    show (match pairs? ((p :: ps).map encP) with
      | some ps => some ((sortP ps).map encP)
      | none => none) = _
    rw [pairs?_map]
theorem all_true {γ : Type} (l : List γ) : dAll [.lst (l.map fun _ => D.bl true)] S = some (.bl true) := by
  unfold dAll
  show ((bls? (l.map fun _ => D.bl true)).map fun bs => D.bl (bs.all id)) = _
  have e : (l.map fun _ => D.bl true) = (List.replicate l.length true).map D.bl := by simp [List.map_const']
  rw [e, bls?_map]
  simp
theorem sum_ints (ns : List Int) : dSum [.lst (ns.map .int)] S = some (.int ns.sum) := by
  unfold dSum
  show ((ints? (ns.map .int)).map fun ns => D.int ns.sum) = _
  rw [ints?_map]
  rfl
theorem itR1_ok {a : M (List D)} {l items : List D} (h1 : a S = .ok l S1) (h2 : range1 l = some items) : itR1 a S = .ok items S1 := bd_ok h1 (op_ok h2)
theorem itZ_ok {a : M (List D)} {x y : List D} (h1 : a S = .ok [.lst x, .lst y] S1) : itZ a S = .ok (pairsD x y) S1 := bd_ok h1 (op_ok rfl)
theorem lrg_ok {a : M (List D)} {l items : List D} (h1 : a S = .ok l S1) (h2 : rangeA l = some items) : lrgL a S = .ok items S1 := bd_ok h1 (op_ok h2)
theorem dLen_map {γ : Type} {f : γ → D} (l : List γ) : dLen [.lst (l.map f)] S = some (.int (l.length : Nat)) := by
  show some (D.int ((l.map f).length : Nat)) = _
  rw [List.length_map]
theorem dAdd_lst {a b : List D} (h : a.length + b.length ≤ sizeLine) : dAdd (.lst a) (.lst b) S = some (.lst (a ++ b)) := by
  show (catL (.lst a) (.lst b) S).map D.lst = _
  unfold catL
  show (if a.length + b.length ≤ sizeLine then some (a ++ b) else none).map D.lst = _
  rw [if_pos h]
  rfl
theorem cut1 (xs : List D) : cutD xs (some 1) none = xs.drop 1 := by
  unfold cutD
  rw [show HT.sIx xs.length 0 (some 1) = min 1 xs.length from HT.sIx_nat xs.length 0 1, HT.sIx_none]
  cases xs with
  | nil => rfl
  | cons x r =>
    rw [show min 1 (x :: r).length = 1 by
      rw [List.length_cons]
      omega]
    show (List.take ((x :: r).length - 1) r) = r
    rw [List.length_cons, Nat.add_sub_cancel]
    exact List.take_length
theorem ix_lst {l : List D} {k : Int} {j : Nat} {d : D} (hk : k = (j : Nat)) (e : l[j]? = some d) : ixD (.lst l) (.int k) S = some d := by
  show atI l k = _
  subst hk
  exact atI_nat e
theorem ix_ps {l : List MS.P} {k : Int} {j : Nat} {p : MS.P} (hk : k = (j : Nat)) (e : l[j]? = some p) : ixD (.lst (l.map encP)) (.int k) S = some (encP p) := ix_lst hk (by rw [List.getElem?_map, e]; rfl)
theorem pairsD_map {γ δ : Type} {f : γ → D} {g : δ → D} (a : List γ) (b : List δ) : pairsD (a.map f) (b.map g) = (a.zip b).map fun q => .tup [f q.1, g q.2] := by
  unfold pairsD
  rw [List.zip_map, List.map_map]
  rfl
theorem set_same {n : Nat} {c : Cell} (h : S[n]? = some c) : S.set n c = S := by
  apply List.ext_getElem?
  intro i
  by_cases e : n = i
  · subst e
    rw [get_set h, h]
  · rw [List.getElem?_set_ne e]
/-! ### what is written -/
def logOk (i : Int) : Prop := i.natAbs.log2 < 1920
theorem logOk_of {i : Int} {b : Nat} (h : i.natAbs < 2 ^ b) (h0 : 0 < b := by decide) (h1 : b ≤ 1920 := by decide) : logOk i := Nat.lt_of_lt_of_le (PySem.Flt.log2_lt_of h0 h) h1
theorem listText_le (ts : List Str) : (listText ts).length ≤ 2 + piled ts := by
  rw [listText_eq_join, strLen_append, strLen_append]
  have e1 : (Str.ofString "[").length = 1 := by decide
  have e2 : (Str.ofString "]").length = 1 := by decide
  cases ts with
  | nil =>
    have : (Str.join ", " []).length = 0 := by decide +kernel
    omega
  | cons t ts =>
    have := join_length_add (t :: ts) (by simp)
    omega
theorem tupleText_le (ts : List Str) : (tupleText ts).length ≤ 3 + piled ts := by
  unfold tupleText
  rw [strLen_append, strLen_append]
  have e1 : (Str.ofString "(").length = 1 := by decide
  have e2 : (Str.ofString (if (ts.length == 1) = true then ",)" else ")")).length ≤ 2 := by split <;> decide
  cases ts with
  | nil =>
    have : (Str.join ", " []).length = 0 := by decide +kernel
    omega
  | cons t ts =>
    have := join_length_add (t :: ts) (by simp)
    omega
theorem shown_int_le {i : Int} (h : logOk i) : (PyData.int i).shown.length ≤ 1921 := by
  rw [PyData.shown_int]
  exact PyProof.Rows.int_text_len_1921 h
theorem shown_pyP_le {p : MS.P} (h : logOk p.1 ∧ logOk p.2) : (pyP p).shown.length ≤ 3849 := by
  show (tupleText (PyData.shownAll [.int p.1, .int p.2])).length ≤ 3849
  have a := shown_int_le h.1
  have b := shown_int_le h.2
  have := tupleText_le (PyData.shownAll [.int p.1, .int p.2])
  rw [PyData.shownAll_cons, PyData.shownAll_cons, PyData.shownAll_nil, piled_cons, piled_cons, piled_nil] at this
  rw [PyData.shownAll_cons, PyData.shownAll_cons, PyData.shownAll_nil]
  omega
theorem piled_ps (l : List MS.P) (h : ∀ p ∈ l, logOk p.1 ∧ logOk p.2) : piled (PyData.shownAll (l.map pyP)) ≤ 3851 * l.length := by
  induction l with
  | nil => exact Nat.le_refl _
  | cons p l ih =>
    rw [List.map_cons, PyData.shownAll_cons, piled_cons, List.length_cons]
    have := ih fun q hq => h q (List.mem_cons_of_mem _ hq)
    have := shown_pyP_le (h p List.mem_cons_self)
    omega
theorem shown_ps_le (l : List MS.P) (h : ∀ p ∈ l, logOk p.1 ∧ logOk p.2) : (PyData.list (l.map pyP)).shown.length ≤ 2 + 3851 * l.length := by
  show (listText (PyData.shownAll (l.map pyP))).length ≤ _
  have := listText_le (PyData.shownAll (l.map pyP))
  have := piled_ps l h
  omega
theorem showable_ps (l : List MS.P) (h : ∀ p ∈ l, logOk p.1 ∧ logOk p.2) : PyData.showableAll (l.map pyP) = true := by
  induction l with
  | nil => rfl
  | cons p l ih =>
    show ((decide (p.1.natAbs.log2 < 1920) && (decide (p.2.natAbs.log2 < 1920) && true)) && PyData.showableAll (l.map pyP)) = true
    rw [ih fun q hq => h q (List.mem_cons_of_mem _ hq), decide_eq_true (show p.1.natAbs.log2 < 1920 from (h p List.mem_cons_self).1), decide_eq_true (show p.2.natAbs.log2 < 1920 from (h p List.mem_cons_self).2)]
    rfl
theorem nodict_ps (l : List MS.P) : PyData.hasDictAll (l.map pyP) = false := by
  induction l with
  | nil => rfl
  | cons p l ih =>
    show ((false || (false || false)) || PyData.hasDictAll (l.map pyP)) = false
    rw [ih]
    rfl
theorem repr_list {d : D} {xs : List PyData} (h : vw S d = some (.list xs)) (hd : ∀ i, d ≠ .int i) (h1 : PyData.showableAll xs = true) (h2 : PyData.hasDictAll xs = false) (h3 : PyData.depthAll xs ≤ 59) (h4 : (PyData.list xs).shown.length ≤ sizeLine) : reprD [d] S = some (.str (PyData.list xs).shown) := by
  unfold reprD
  split
  · rename_i i e
    cases e
    exact absurd rfl (hd i)
  · rename_i e
    cases e
    cases h
  · rename_i d' _ _ e
    cases e
    rw [h]
    show (if PyData.showable (.list xs) = true ∧ PyData.hasDict (.list xs) = false ∧ PyData.depth (.list xs) ≤ 60 ∧ (PyData.list xs).shown.length ≤ sizeLine then some (D.str (PyData.list xs).shown) else none) = _
    exact if_pos ⟨h1, h2, by show PyData.depthAll xs + 1 ≤ 60; omega, h4⟩
  · rename_i e1 e2 e3
    exact absurd rfl (e3 d)
theorem repr_ps (l : List MS.P) (h : ∀ p ∈ l, logOk p.1 ∧ logOk p.2) (hz : l.length ≤ 4000) : reprD [.lst (l.map encP)] S = some (.str (PyData.list (l.map pyP)).shown) :=
  repr_list (vw_ps l) (fun i e => by cases e) (showable_ps l h) (nodict_ps l) (by have := depth_ps l; omega) (by have := shown_ps_le l h; have : sizeLine = 16777216 := by decide
                                                                                                                 omega)
end
end DL
end
section
set_option maxHeartbeats 4000000
namespace K04
open PySem PySem.Spec L2 DL
open PyProof.Rows hiding St
/-! ### the text -/
def top (i : Nat) : Stmt := PySem.Challenge.pw_scanmisses_k04_great_lists.main.body.getD i (.Pass ⟨0, 0, 0, 0⟩)
abbrev s__law_bag : Stmt := top 39
abbrev s__law_pick : Stmt := top 40
abbrev s__law_mixed : Stmt := top 43
abbrev s__law_list : Stmt := top 44
abbrev s_is_int : Stmt := top 9
abbrev s_in_range : Stmt := top 10
abbrev s_is_scan : Stmt := top 11
abbrev s_is_list : Stmt := top 12
abbrev s_require_list : Stmt := top 14
abbrev s_tidied : Stmt := top 22
abbrev s_tidy : Stmt := top 29
abbrev s_size_of : Stmt := top 20
abbrev s_total_of : Stmt := top 21
abbrev s_count_addresses : Stmt := top 30
abbrev s_reversed_list : Stmt := top 27
abbrev s_turned : Stmt := top 31
abbrev s_require_address : Stmt := top 15
abbrev s_place_in : Stmt := top 32
abbrev s_place_of : Stmt := top 33
abbrev s_require_index : Stmt := top 16
abbrev s_scan_part : Stmt := top 23
abbrev s_nth_address : Stmt := top 34
abbrev s_require_number : Stmt := top 17
abbrev s_beginning : Stmt := top 28
abbrev s_first_part : Stmt := top 35
abbrev s_require_scan : Stmt := top 13
abbrev s_common_of : Stmt := top 24
abbrev s_cut : Stmt := top 25
abbrev s_put_on_top : Stmt := top 26
abbrev s_on_top : Stmt := top 36
abbrev s_require_interval : Stmt := top 18
abbrev s_without : Stmt := top 37
abbrev s__law_joined : Stmt := top 42
abbrev s__law_size : Stmt := top 45
abbrev s__law_within : Stmt := top 46
abbrev s__law_cut : Stmt := top 47
abbrev s__law_first : Stmt := top 48
abbrev s__law_marks : Stmt := top 49
abbrev s__law_right : Stmt := top 50
abbrev s_law : Stmt := top 51
abbrev N__law_bag : List Str := ["cell"]
theorem sc__law_bag : FnScope N__law_bag ["cell"] (defScope s__law_bag) := ⟨rfl, rfl, rfl, by decide +kernel, rfl, by decide +kernel, by decide +kernel⟩
def d__law_bag : He.DefD := ⟨("_law_bag", none), "_law_bag", "_law_bag", defArgs s__law_bag, defBody s__law_bag, defScope s__law_bag, [], []⟩
abbrev N__law_pick : List Str := ["bag", "many", "told", "seed", "turn", "first", "second"]
theorem sc__law_pick : FnScope N__law_pick ["bag", "many"] (defScope s__law_pick) := ⟨rfl, rfl, rfl, by decide +kernel, rfl, by decide +kernel, by decide +kernel⟩
def d__law_pick : He.DefD := ⟨("_law_pick", none), "_law_pick", "_law_pick", defArgs s__law_pick, defBody s__law_pick, defScope s__law_pick, [], []⟩
abbrev N__law_mixed : List Str := ["bag", "items", "left", "found"]
theorem sc__law_mixed : FnScope N__law_mixed ["bag", "items"] (defScope s__law_mixed) := ⟨rfl, rfl, rfl, by decide +kernel, rfl, by decide +kernel, by decide +kernel⟩
def d__law_mixed : He.DefD := ⟨("_law_mixed", none), "_law_mixed", "_law_mixed", defArgs s__law_mixed, defBody s__law_mixed, defScope s__law_mixed, [], []⟩
abbrev N__law_list : List Str := ["bag", "many", "wide", "marks", "found", "low", "high", "k"]
theorem sc__law_list : FnScope N__law_list ["bag", "many", "wide"] (defScope s__law_list) := ⟨rfl, rfl, rfl, by decide +kernel, rfl, by decide +kernel, by decide +kernel⟩
def d__law_list : He.DefD := ⟨("_law_list", none), "_law_list", "_law_list", defArgs s__law_list, defBody s__law_list, defScope s__law_list, [], []⟩
abbrev N_is_int : List Str := ["value"]
theorem sc_is_int : FnScope N_is_int ["value"] (defScope s_is_int) := ⟨rfl, rfl, rfl, by decide +kernel, rfl, by decide +kernel, by decide +kernel⟩
def d_is_int : He.DefD := ⟨("is_int", none), "is_int", "is_int", defArgs s_is_int, defBody s_is_int, defScope s_is_int, [], []⟩
abbrev N_in_range : List Str := ["value", "low", "high"]
theorem sc_in_range : FnScope N_in_range ["value", "low", "high"] (defScope s_in_range) := ⟨rfl, rfl, rfl, by decide +kernel, rfl, by decide +kernel, by decide +kernel⟩
def d_in_range : He.DefD := ⟨("in_range", none), "in_range", "in_range", defArgs s_in_range, defBody s_in_range, defScope s_in_range, [], []⟩
abbrev N_is_scan : List Str := ["value", "number"]
theorem sc_is_scan : FnScope N_is_scan ["value"] (defScope s_is_scan) := ⟨rfl, rfl, rfl, by decide +kernel, rfl, by decide +kernel, by decide +kernel⟩
def d_is_scan : He.DefD := ⟨("is_scan", none), "is_scan", "is_scan", defArgs s_is_scan, defBody s_is_scan, defScope s_is_scan, [], []⟩
abbrev N_is_list : List Str := ["value", "behind", "low", "high", "scan"]
theorem sc_is_list : FnScope N_is_list ["value"] (defScope s_is_list) := ⟨rfl, rfl, rfl, by decide +kernel, rfl, by decide +kernel, by decide +kernel⟩
def d_is_list : He.DefD := ⟨("is_list", none), "is_list", "is_list", defArgs s_is_list, defBody s_is_list, defScope s_is_list, [], []⟩
abbrev N_require_list : List Str := ["value"]
theorem sc_require_list : FnScope N_require_list ["value"] (defScope s_require_list) := ⟨rfl, rfl, rfl, by decide +kernel, rfl, by decide +kernel, by decide +kernel⟩
def d_require_list : He.DefD := ⟨("require_list", none), "require_list", "require_list", defArgs s_require_list, defBody s_require_list, defScope s_require_list, [], []⟩
abbrev N_tidied : List Str := ["scans", "begins", "ends", "at", "begin", "end"]
theorem sc_tidied : FnScope N_tidied ["scans"] (defScope s_tidied) := ⟨rfl, rfl, rfl, by decide +kernel, rfl, by decide +kernel, by decide +kernel⟩
def d_tidied : He.DefD := ⟨("tidied", none), "tidied", "tidied", defArgs s_tidied, defBody s_tidied, defScope s_tidied, [], []⟩
abbrev N_tidy : List Str := ["scans"]
theorem sc_tidy : FnScope N_tidy ["scans"] (defScope s_tidy) := ⟨rfl, rfl, rfl, by decide +kernel, rfl, by decide +kernel, by decide +kernel⟩
def d_tidy : He.DefD := ⟨("tidy", none), "tidy", "tidy", defArgs s_tidy, defBody s_tidy, defScope s_tidy, [], []⟩
abbrev N_size_of : List Str := ["scan"]
theorem sc_size_of : FnScope N_size_of ["scan"] (defScope s_size_of) := ⟨rfl, rfl, rfl, by decide +kernel, rfl, by decide +kernel, by decide +kernel⟩
def d_size_of : He.DefD := ⟨("size_of", none), "size_of", "size_of", defArgs s_size_of, defBody s_size_of, defScope s_size_of, [], []⟩
abbrev N_total_of : List Str := ["scans", "scan"]
theorem sc_total_of : FnScope N_total_of ["scans"] (defScope s_total_of) := ⟨rfl, rfl, rfl, by decide +kernel, rfl, by decide +kernel, by decide +kernel⟩
def d_total_of : He.DefD := ⟨("total_of", none), "total_of", "total_of", defArgs s_total_of, defBody s_total_of, defScope s_total_of, [], []⟩
abbrev N_count_addresses : List Str := ["scans"]
theorem sc_count_addresses : FnScope N_count_addresses ["scans"] (defScope s_count_addresses) := ⟨rfl, rfl, rfl, by decide +kernel, rfl, by decide +kernel, by decide +kernel⟩
def d_count_addresses : He.DefD := ⟨("count_addresses", none), "count_addresses", "count_addresses", defArgs s_count_addresses, defBody s_count_addresses, defScope s_count_addresses, [], []⟩
abbrev N_reversed_list : List Str := ["scans", "first", "last"]
theorem sc_reversed_list : FnScope N_reversed_list ["scans"] (defScope s_reversed_list) := ⟨rfl, rfl, rfl, by decide +kernel, rfl, by decide +kernel, by decide +kernel⟩
def d_reversed_list : He.DefD := ⟨("reversed_list", none), "reversed_list", "reversed_list", defArgs s_reversed_list, defBody s_reversed_list, defScope s_reversed_list, [], []⟩
abbrev N_turned : List Str := ["scans"]
theorem sc_turned : FnScope N_turned ["scans"] (defScope s_turned) := ⟨rfl, rfl, rfl, by decide +kernel, rfl, by decide +kernel, by decide +kernel⟩
def d_turned : He.DefD := ⟨("turned", none), "turned", "turned", defArgs s_turned, defBody s_turned, defScope s_turned, [], []⟩
abbrev N_require_address : List Str := ["value"]
theorem sc_require_address : FnScope N_require_address ["value"] (defScope s_require_address) := ⟨rfl, rfl, rfl, by decide +kernel, rfl, by decide +kernel, by decide +kernel⟩
def d_require_address : He.DefD := ⟨("require_address", none), "require_address", "require_address", defArgs s_require_address, defBody s_require_address, defScope s_require_address, [], []⟩
abbrev N_place_in : List Str := ["scans", "address", "ahead", "scan"]
theorem sc_place_in : FnScope N_place_in ["scans", "address"] (defScope s_place_in) := ⟨rfl, rfl, rfl, by decide +kernel, rfl, by decide +kernel, by decide +kernel⟩
def d_place_in : He.DefD := ⟨("place_in", none), "place_in", "place_in", defArgs s_place_in, defBody s_place_in, defScope s_place_in, [], []⟩
abbrev N_place_of : List Str := ["scans", "address"]
theorem sc_place_of : FnScope N_place_of ["scans", "address"] (defScope s_place_of) := ⟨rfl, rfl, rfl, by decide +kernel, rfl, by decide +kernel, by decide +kernel⟩
def d_place_of : He.DefD := ⟨("place_of", none), "place_of", "place_of", defArgs s_place_of, defBody s_place_of, defScope s_place_of, [], []⟩
abbrev N_require_index : List Str := ["value", "many"]
theorem sc_require_index : FnScope N_require_index ["value", "many"] (defScope s_require_index) := ⟨rfl, rfl, rfl, by decide +kernel, rfl, by decide +kernel, by decide +kernel⟩
def d_require_index : He.DefD := ⟨("require_index", none), "require_index", "require_index", defArgs s_require_index, defBody s_require_index, defScope s_require_index, [], []⟩
abbrev N_scan_part : List Str := ["scan", "begin", "end", "step"]
theorem sc_scan_part : FnScope N_scan_part ["scan", "begin", "end"] (defScope s_scan_part) := ⟨rfl, rfl, rfl, by decide +kernel, rfl, by decide +kernel, by decide +kernel⟩
def d_scan_part : He.DefD := ⟨("scan_part", none), "scan_part", "scan_part", defArgs s_scan_part, defBody s_scan_part, defScope s_scan_part, [], []⟩
abbrev N_nth_address : List Str := ["scans", "index", "left", "scan"]
theorem sc_nth_address : FnScope N_nth_address ["scans", "index"] (defScope s_nth_address) := ⟨rfl, rfl, rfl, by decide +kernel, rfl, by decide +kernel, by decide +kernel⟩
def d_nth_address : He.DefD := ⟨("nth_address", none), "nth_address", "nth_address", defArgs s_nth_address, defBody s_nth_address, defScope s_nth_address, [], []⟩
abbrev N_require_number : List Str := ["value", "low", "high"]
theorem sc_require_number : FnScope N_require_number ["value", "low", "high"] (defScope s_require_number) := ⟨rfl, rfl, rfl, by decide +kernel, rfl, by decide +kernel, by decide +kernel⟩
def d_require_number : He.DefD := ⟨("require_number", none), "require_number", "require_number", defArgs s_require_number, defBody s_require_number, defScope s_require_number, [], []⟩
abbrev N_beginning : List Str := ["scans", "many", "found", "left", "scan"]
theorem sc_beginning : FnScope N_beginning ["scans", "many"] (defScope s_beginning) := ⟨rfl, rfl, rfl, by decide +kernel, rfl, by decide +kernel, by decide +kernel⟩
def d_beginning : He.DefD := ⟨("beginning", none), "beginning", "beginning", defArgs s_beginning, defBody s_beginning, defScope s_beginning, [], []⟩
abbrev N_first_part : List Str := ["scans", "many"]
theorem sc_first_part : FnScope N_first_part ["scans", "many"] (defScope s_first_part) := ⟨rfl, rfl, rfl, by decide +kernel, rfl, by decide +kernel, by decide +kernel⟩
def d_first_part : He.DefD := ⟨("first_part", none), "first_part", "first_part", defArgs s_first_part, defBody s_first_part, defScope s_first_part, [], []⟩
abbrev N_require_scan : List Str := ["value"]
theorem sc_require_scan : FnScope N_require_scan ["value"] (defScope s_require_scan) := ⟨rfl, rfl, rfl, by decide +kernel, rfl, by decide +kernel, by decide +kernel⟩
def d_require_scan : He.DefD := ⟨("require_scan", none), "require_scan", "require_scan", defArgs s_require_scan, defBody s_require_scan, defScope s_require_scan, [], []⟩
abbrev N_common_of : List Str := ["scan", "low", "high", "bottom", "top"]
theorem sc_common_of : FnScope N_common_of ["scan", "low", "high"] (defScope s_common_of) := ⟨rfl, rfl, rfl, by decide +kernel, rfl, by decide +kernel, by decide +kernel⟩
def d_common_of : He.DefD := ⟨("common_of", none), "common_of", "common_of", defArgs s_common_of, defBody s_common_of, defScope s_common_of, [], []⟩
abbrev N_cut : List Str := ["scans", "low", "high", "found", "scan", "sides", "bottom", "top", "part"]
theorem sc_cut : FnScope N_cut ["scans", "low", "high"] (defScope s_cut) := ⟨rfl, rfl, rfl, by decide +kernel, rfl, by decide +kernel, by decide +kernel⟩
def d_cut : He.DefD := ⟨("cut", none), "cut", "cut", defArgs s_cut, defBody s_cut, defScope s_cut, [], []⟩
abbrev N_put_on_top : List Str := ["scans", "scan"]
theorem sc_put_on_top : FnScope N_put_on_top ["scans", "scan"] (defScope s_put_on_top) := ⟨rfl, rfl, rfl, by decide +kernel, rfl, by decide +kernel, by decide +kernel⟩
def d_put_on_top : He.DefD := ⟨("put_on_top", none), "put_on_top", "put_on_top", defArgs s_put_on_top, defBody s_put_on_top, defScope s_put_on_top, [], []⟩
abbrev N_on_top : List Str := ["scans", "scan"]
theorem sc_on_top : FnScope N_on_top ["scans", "scan"] (defScope s_on_top) := ⟨rfl, rfl, rfl, by decide +kernel, rfl, by decide +kernel, by decide +kernel⟩
def d_on_top : He.DefD := ⟨("on_top", none), "on_top", "on_top", defArgs s_on_top, defBody s_on_top, defScope s_on_top, [], []⟩
abbrev N_require_interval : List Str := ["low", "high"]
theorem sc_require_interval : FnScope N_require_interval ["low", "high"] (defScope s_require_interval) := ⟨rfl, rfl, rfl, by decide +kernel, rfl, by decide +kernel, by decide +kernel⟩
def d_require_interval : He.DefD := ⟨("require_interval", none), "require_interval", "require_interval", defArgs s_require_interval, defBody s_require_interval, defScope s_require_interval, [], []⟩
abbrev N_without : List Str := ["scans", "low", "high"]
theorem sc_without : FnScope N_without ["scans", "low", "high"] (defScope s_without) := ⟨rfl, rfl, rfl, by decide +kernel, rfl, by decide +kernel, by decide +kernel⟩
def d_without : He.DefD := ⟨("without", none), "without", "without", defArgs s_without, defBody s_without, defScope s_without, [], []⟩
abbrev N__law_joined : List Str := ["scans", "found", "first", "last"]
theorem sc__law_joined : FnScope N__law_joined ["scans"] (defScope s__law_joined) := ⟨rfl, rfl, rfl, by decide +kernel, rfl, by decide +kernel, by decide +kernel⟩
def d__law_joined : He.DefD := ⟨("_law_joined", none), "_law_joined", "_law_joined", defArgs s__law_joined, defBody s__law_joined, defScope s__law_joined, [], []⟩
abbrev N__law_size : List Str := ["scan"]
theorem sc__law_size : FnScope N__law_size ["scan"] (defScope s__law_size) := ⟨rfl, rfl, rfl, by decide +kernel, rfl, by decide +kernel, by decide +kernel⟩
def d__law_size : He.DefD := ⟨("_law_size", none), "_law_size", "_law_size", defArgs s__law_size, defBody s__law_size, defScope s__law_size, [], []⟩
abbrev N__law_within : List Str := ["scan", "low", "high", "bottom", "top"]
theorem sc__law_within : FnScope N__law_within ["scan", "low", "high"] (defScope s__law_within) := ⟨rfl, rfl, rfl, by decide +kernel, rfl, by decide +kernel, by decide +kernel⟩
def d__law_within : He.DefD := ⟨("_law_within", none), "_law_within", "_law_within", defArgs s__law_within, defBody s__law_within, defScope s__law_within, [], []⟩
abbrev N__law_cut : List Str := ["scans", "low", "high", "found", "scan", "sides"]
theorem sc__law_cut : FnScope N__law_cut ["scans", "low", "high"] (defScope s__law_cut) := ⟨rfl, rfl, rfl, by decide +kernel, rfl, by decide +kernel, by decide +kernel⟩
def d__law_cut : He.DefD := ⟨("_law_cut", none), "_law_cut", "_law_cut", defArgs s__law_cut, defBody s__law_cut, defScope s__law_cut, [], []⟩
abbrev N__law_first : List Str := ["scans", "many", "found", "left", "scan", "some", "step"]
theorem sc__law_first : FnScope N__law_first ["scans", "many"] (defScope s__law_first) := ⟨rfl, rfl, rfl, by decide +kernel, rfl, by decide +kernel, by decide +kernel⟩
def d__law_first : He.DefD := ⟨("_law_first", none), "_law_first", "_law_first", defArgs s__law_first, defBody s__law_first, defScope s__law_first, [], []⟩
abbrev N__law_marks : List Str := ["bag", "scans", "found", "turn", "scan"]
theorem sc__law_marks : FnScope N__law_marks ["bag", "scans"] (defScope s__law_marks) := ⟨rfl, rfl, rfl, by decide +kernel, rfl, by decide +kernel, by decide +kernel⟩
def d__law_marks : He.DefD := ⟨("_law_marks", none), "_law_marks", "_law_marks", defArgs s__law_marks, defBody s__law_marks, defScope s__law_marks, [], []⟩
abbrev N__law_right : List Str := ["bag", "scans", "sizes", "marks", "address", "due", "k", "scan", "turn", "one", "other", "low", "high", "first", "last"]
theorem sc__law_right : FnScope N__law_right ["bag", "scans"] (defScope s__law_right) := ⟨rfl, rfl, rfl, by decide +kernel, rfl, by decide +kernel, by decide +kernel⟩
def d__law_right : He.DefD := ⟨("_law_right", none), "_law_right", "_law_right", defArgs s__law_right, defBody s__law_right, defScope s__law_right, [], []⟩
abbrev N_law : List Str := ["script", "k", "cell", "bag", "turn", "wide"]
theorem sc_law : FnScope N_law ["script"] (defScope s_law) := ⟨rfl, rfl, rfl, by decide +kernel, rfl, by decide +kernel, by decide +kernel⟩
def d_law : He.DefD := ⟨("law", none), "law", "law", defArgs s_law, defBody s_law, defScope s_law, [], []⟩
def fn : List He.DefD := [d__law_bag, d__law_pick, d__law_mixed, d__law_list, d_is_int, d_in_range, d_is_scan, d_is_list, d_require_list, d_tidied, d_tidy, d_size_of, d_total_of, d_count_addresses, d_reversed_list, d_turned, d_require_address, d_place_in, d_place_of, d_require_index, d_scan_part, d_nth_address, d_require_number, d_beginning, d_first_part, d_require_scan, d_common_of, d_cut, d_put_on_top, d_on_top, d_require_interval, d_without, d__law_joined, d__law_size, d__law_within, d__law_cut, d__law_first, d__law_marks, d__law_right, d_law]
def fa : List He.Fa := [.glo "_law_bag", .glo "_law_pick", .glo "_law_mixed", .glo "_law_list", .glo "is_int", .glo "in_range", .glo "is_scan", .glo "is_list", .glo "require_list", .glo "tidied", .glo "tidy", .glo "size_of", .glo "total_of", .glo "count_addresses", .glo "reversed_list", .glo "turned", .glo "require_address", .glo "place_in", .glo "place_of", .glo "require_index", .glo "scan_part", .glo "nth_address", .glo "require_number", .glo "beginning", .glo "first_part", .glo "require_scan", .glo "common_of", .glo "cut", .glo "put_on_top", .glo "on_top", .glo "require_interval", .glo "without", .glo "_law_joined", .glo "_law_size", .glo "_law_within", .glo "_law_cut", .glo "_law_first", .glo "_law_marks", .glo "_law_right", .glo "law", .free "max", .free "int", .free "list", .free "len", .free "range", .free "sorted", .free "set", .free "zip", .free "isinstance", .free "bool", .free "all", .free "tuple", .free "min", .free "abs", .free "sum", .free "enumerate"]
/-! ### what each def computes -/
noncomputable def B__law_bag : SM :=
  (retS fun ρ => (celE (lstE (consM (cbE dMax2 (consM (kon (.int 0)) (consM (b2 dSub (rd ρ 0) (b2 dPow (kon (.int 10)) (kon (.int 18)))) nilA))) (consM (rd ρ 0) (consM (kon (.int 0)) nilA))))))
noncomputable def g__law_bag : List D → M (List D) := bodyL 1 B__law_bag
noncomputable def B__law_pick : SM :=
  (seqS (stoS (fun ρ => (b2 dAdd (b2 ixD (rd ρ 0) (kon (.int 2))) (kon (.int 1)))) (fun ρ => (rd ρ 0)) fun ρ => (kon (.int 2)))
    (seqS (ifS (fun ρ => (b2T dGt (b2 ixD (rd ρ 0) (kon (.int 0))) (kon (.int 0)))) (seqS (setS 2 fun ρ => (b2 dMod (cbE dInt (consM (b2 ixD (rd ρ 0) (kon (.int 0))) nilA)) (rd ρ 1)))
    (seqS (stoS (fun ρ => (b2 dDiv (cbE dInt (consM (b2 ixD (rd ρ 0) (kon (.int 0))) nilA)) (rd ρ 1))) (fun ρ => (rd ρ 0)) fun ρ => (kon (.int 0)))
    (retS fun ρ => (rd ρ 2)))) nxS)
    (seqS (parS 3 4 fun ρ => (consM (cbE dInt (consM (b2 ixD (rd ρ 0) (kon (.int 1))) nilA)) (consM (cbE dInt (consM (b2 ixD (rd ρ 0) (kon (.int 2))) nilA)) nilA)))
    (seqS (setS 5 fun ρ => (b2 dMod (cbE dInt (consM (b2 dAdd (b2 dAdd (b2 dMul (b2 dMod (rd ρ 3) (kon (.int 2147483629))) (kon (.int 48271))) (b2 dMul (rd ρ 4) (kon (.int 69621)))) (kon (.int 12345))) nilA)) (kon (.int 2147483647))))
    (seqS (setS 6 fun ρ => (b2 dMod (cbE dInt (consM (b2 dAdd (b2 dMul (rd ρ 5) (rd ρ 5)) (b2 dMul (rd ρ 4) (kon (.int 40692)))) nilA)) (kon (.int 2147483587))))
    (retS fun ρ => (b2 dMod (cbE dInt (consM (b2 dDiv (b2 dAdd (b2 dMul (rd ρ 5) (kon (.int 2147483587))) (rd ρ 6)) (kon (.int 32))) nilA)) (rd ρ 1))))))))
noncomputable def g__law_pick : List D → M D := bodyD 7 B__law_pick
noncomputable def L1__law_mixed : SM :=
  (expS fun ρ => (mthE "list" mAppend (rd ρ 3) (consM (mthE "list" mPopAt (rd ρ 2) (consM (callE 2 g__law_pick (consM (rd ρ 0) (consM (cbE dLen (consM (rd ρ 2) nilA)) nilA))) nilA)) nilA)))
noncomputable def B__law_mixed : SM :=
  (seqS (parS 2 3 fun ρ => (consM (celE (cbL dListOf (consM (rd ρ 1) nilA))) (consM (celE (lstE nilA)) nilA)))
    (seqS (whileW (fun ρ => (b2T dNe (rd ρ 2) (frzE (lstE nilA)))) L1__law_mixed)
    (retS fun ρ => (rd ρ 3))))
noncomputable def g__law_mixed : List D → M D := bodyD 4 B__law_mixed
noncomputable def L1__law_list : SM :=
  (ifS (fun ρ => (b2T dGt (callE 2 g__law_pick (consM (rd ρ 0) (consM (kon (.int 4)) nilA))) (kon (.int 0)))) (expS fun ρ => (mthE "list" mAppend (rd ρ 4) (consM (b2 ixD (frzE (lstE (consM (tupE (consM (rd ρ 5) (consM (b2 dSub (rd ρ 6) (kon (.int 1))) nilA))) (consM (tupE (consM (b2 dSub (rd ρ 6) (kon (.int 1))) (consM (rd ρ 5) nilA))) nilA)))) (callE 2 g__law_pick (consM (rd ρ 0) (consM (kon (.int 2)) nilA)))) nilA))) nxS)
noncomputable def B__law_list : SM :=
  (seqS (setS 3 fun ρ => (frzE (setsL (frzE (lcL (itR1 (consM (b2 dAdd (kon (.int 2)) (callE 2 g__law_pick (consM (rd ρ 0) (consM (rd ρ 1) nilA)))) nilA)) (.nm 7) (fun ρ => yesM) (fun ρ => (callE 2 g__law_pick (consM (rd ρ 0) (consM (rd ρ 2) nilA)))) ρ [7])))))
    (seqS (setS 4 fun ρ => (celE (lstE nilA)))
    (seqS (forS (fun ρ => (itZ (consM (rd ρ 3) (consM (slE (rd ρ 3) (smO (kon (.int 1))) noO) nilA)))) (.tp [(.nm 5), (.nm 6)]) L1__law_list)
    (seqS (ifS (fun ρ => (b2T dEq (callE 2 g__law_pick (consM (rd ρ 0) (consM (kon (.int 3)) nilA))) (kon (.int 0)))) (seqS (setS 4 fun ρ => (celE (stepL (frzE (cbL sortD (consM (rd ρ 4) nilA))) (b2 ixD (frzE (lstE (consM (kon (.int 1)) (consM (b1 dNeg (kon (.int 1))) nilA)))) (callE 2 g__law_pick (consM (rd ρ 0) (consM (kon (.int 2)) nilA)))))))
    (retS fun ρ => (rd ρ 4))) nxS)
    (retS fun ρ => (callE 2 g__law_mixed (consM (rd ρ 0) (consM (M.bind (rd ρ 4) fzM) nilA))))))))
noncomputable def g__law_list : List D → M D := bodyD 8 B__law_list
noncomputable def B_is_int : SM :=
  (retS fun ρ => (andE (isiE tabInt (rd ρ 0)) (notE (isiE (tabIs "bool") (rd ρ 0)))))
noncomputable def g_is_int : List D → M D := bodyD 1 B_is_int
noncomputable def B_in_range : SM :=
  (retS fun ρ => (andE (callE 1 g_is_int (consM (rd ρ 0) nilA)) (andE (b2 dLe (rd ρ 1) (rd ρ 0)) (orE (b2 dIs (rd ρ 2) (kon .non)) (b2 dLe (rd ρ 0) (rd ρ 2))))))
noncomputable def g_in_range : List D → M D := bodyD 3 B_in_range
noncomputable def B_is_scan : SM :=
  (retS fun ρ => (andE (isiE (tabIs "tuple") (rd ρ 0)) (andE (b2 dEq (cbE dLen (consM (rd ρ 0) nilA)) (kon (.int 2))) (cbE dAll (consM (frzE (lcL (itS (rd ρ 0)) (.nm 1) (fun ρ => yesM) (fun ρ => (callE 3 g_in_range (consM (rd ρ 1) (consM (kon (.int 0)) (consM (kon .non) nilA))))) ρ [1])) nilA)))))
noncomputable def g_is_scan : List D → M D := bodyD 2 B_is_scan
noncomputable def L1_is_list : SM :=
  (seqS (ifS (fun ρ => (b2T dLe (rd ρ 2) (rd ρ 1))) (retS fun ρ => (kon (.bl false))) nxS)
    (setS 1 fun ρ => (rd ρ 3)))
noncomputable def B_is_list : SM :=
  (seqS (ifS (fun ρ => (orM (notT (valT (isiE (tabIs "list") (rd ρ 0)))) (notT (valT (cbE dAll (consM (frzE (lcL (itS (rd ρ 0)) (.nm 4) (fun ρ => yesM) (fun ρ => (callE 1 g_is_scan (consM (rd ρ 4) nilA))) ρ [4])) nilA)))))) (retS fun ρ => (kon (.bl false))) nxS)
    (seqS (setS 1 fun ρ => (b1 dNeg (kon (.int 1))))
    (seqS (forS (fun ρ => (itS (frzE (cbL sortD (consM (frzE (lcL (itS (rd ρ 0)) (.nm 4) (fun ρ => yesM) (fun ρ => (tupE (consM (cbE dMinL (consM (rd ρ 4) nilA)) (consM (cbE dMaxL (consM (rd ρ 4) nilA)) nilA)))) ρ [4])) nilA))))) (.tp [(.nm 2), (.nm 3)]) L1_is_list)
    (retS fun ρ => (kon (.bl true))))))
noncomputable def g_is_list : List D → M D := bodyD 5 B_is_list
noncomputable def B_require_list : SM :=
  (ifS (fun ρ => (notT (valT (callE 1 g_is_list (consM (rd ρ 0) nilA))))) stkS nxS)
noncomputable def g_require_list : List D → M D := bodyD 1 B_require_list
noncomputable def B_tidied : SM :=
  (seqS (setS 1 fun ρ => (frzE (lcL (itR1 (consM (cbE dLen (consM (rd ρ 0) nilA)) nilA)) (.nm 3) (fun ρ => (orM (b2T dEq (rd ρ 3) (kon (.int 0))) (b2T dNe (cbE dAbs (consM (b2 dSub (b2 ixD (b2 ixD (rd ρ 0) (b2 dSub (rd ρ 3) (kon (.int 1)))) (kon (.int 1))) (b2 ixD (b2 ixD (rd ρ 0) (rd ρ 3)) (kon (.int 0)))) nilA)) (kon (.int 1))))) (fun ρ => (rd ρ 3)) ρ [3])))
    (seqS (setS 2 fun ρ => (b2 dAdd (slE (rd ρ 1) (smO (kon (.int 1))) noO) (frzE (lstE (consM (cbE dLen (consM (rd ρ 0) nilA)) nilA)))))
    (retS fun ρ => (celE (lcL (itZ (consM (rd ρ 1) (consM (rd ρ 2) nilA))) (.tp [(.nm 4), (.nm 5)]) (fun ρ => yesM) (fun ρ => (tupE (consM (b2 ixD (b2 ixD (rd ρ 0) (rd ρ 4)) (kon (.int 0))) (consM (b2 ixD (b2 ixD (rd ρ 0) (b2 dSub (rd ρ 5) (kon (.int 1)))) (kon (.int 1))) nilA)))) ρ [4, 5])))))
noncomputable def g_tidied : List D → M (List D) := bodyL 6 B_tidied
noncomputable def B_tidy : SM :=
  (seqS (expS fun ρ => (callE 1 g_require_list (consM (rd ρ 0) nilA)))
    (retS fun ρ => (celE (callL 1 g_tidied (consM (rd ρ 0) nilA)))))
noncomputable def g_tidy : List D → M (List D) := bodyL 1 B_tidy
noncomputable def B_size_of : SM :=
  (retS fun ρ => (b2 dAdd (cbE dAbs (consM (b2 dSub (b2 ixD (rd ρ 0) (kon (.int 1))) (b2 ixD (rd ρ 0) (kon (.int 0)))) nilA)) (kon (.int 1))))
noncomputable def g_size_of : List D → M D := bodyD 1 B_size_of
noncomputable def B_total_of : SM :=
  (retS fun ρ => (cbE dSum (consM (frzE (lcL (itS (rd ρ 0)) (.nm 1) (fun ρ => yesM) (fun ρ => (callE 1 g_size_of (consM (rd ρ 1) nilA))) ρ [1])) nilA)))
noncomputable def g_total_of : List D → M D := bodyD 2 B_total_of
noncomputable def B_count_addresses : SM :=
  (seqS (expS fun ρ => (callE 1 g_require_list (consM (rd ρ 0) nilA)))
    (retS fun ρ => (callE 1 g_total_of (consM (rd ρ 0) nilA))))
noncomputable def g_count_addresses : List D → M D := bodyD 1 B_count_addresses
noncomputable def B_reversed_list : SM :=
  (retS fun ρ => (celE (lcL (itS (frzE (revL (rd ρ 0)))) (.tp [(.nm 1), (.nm 2)]) (fun ρ => yesM) (fun ρ => (tupE (consM (rd ρ 2) (consM (rd ρ 1) nilA)))) ρ [1, 2])))
noncomputable def g_reversed_list : List D → M (List D) := bodyL 3 B_reversed_list
noncomputable def B_turned : SM :=
  (seqS (expS fun ρ => (callE 1 g_require_list (consM (rd ρ 0) nilA)))
    (retS fun ρ => (celE (callL 1 g_reversed_list (consM (frzE (callL 1 g_tidied (consM (rd ρ 0) nilA))) nilA)))))
noncomputable def g_turned : List D → M (List D) := bodyL 1 B_turned
noncomputable def B_require_address : SM :=
  (ifS (fun ρ => (notT (valT (callE 3 g_in_range (consM (rd ρ 0) (consM (kon (.int 0)) (consM (kon .non) nilA))))))) stkS nxS)
noncomputable def g_require_address : List D → M D := bodyD 1 B_require_address
noncomputable def L1_place_in : SM :=
  (seqS (ifS (fun ρ => (chT dLe dLe (cbE dMinL (consM (rd ρ 3) nilA)) (rd ρ 1) (cbE dMaxL (consM (rd ρ 3) nilA)))) (retS fun ρ => (b2 dAdd (rd ρ 2) (cbE dAbs (consM (b2 dSub (rd ρ 1) (b2 ixD (rd ρ 3) (kon (.int 0)))) nilA)))) nxS)
    (setS 2 fun ρ => (b2 dAdd (rd ρ 2) (callE 1 g_size_of (consM (rd ρ 3) nilA)))))
noncomputable def B_place_in : SM :=
  (seqS (setS 2 fun ρ => (kon (.int 0)))
    (seqS (forS (fun ρ => (itS (rd ρ 0))) (.nm 3) L1_place_in)
    (retS fun ρ => (kon .non))))
noncomputable def g_place_in : List D → M D := bodyD 4 B_place_in
noncomputable def B_place_of : SM :=
  (seqS (expS fun ρ => (callE 1 g_require_list (consM (rd ρ 0) nilA)))
    (seqS (expS fun ρ => (callE 1 g_require_address (consM (rd ρ 1) nilA)))
    (retS fun ρ => (callE 2 g_place_in (consM (rd ρ 0) (consM (rd ρ 1) nilA))))))
noncomputable def g_place_of : List D → M D := bodyD 2 B_place_of
noncomputable def B_require_index : SM :=
  (ifS (fun ρ => (notT (valT (callE 3 g_in_range (consM (rd ρ 0) (consM (kon (.int 0)) (consM (b2 dSub (rd ρ 1) (kon (.int 1))) nilA))))))) stkS nxS)
noncomputable def g_require_index : List D → M D := bodyD 2 B_require_index
noncomputable def B_scan_part : SM :=
  (seqS (setS 3 fun ρ => (ifE (b2T dLe (b2 ixD (rd ρ 0) (kon (.int 0))) (b2 ixD (rd ρ 0) (kon (.int 1)))) (kon (.int 1)) (b1 dNeg (kon (.int 1)))))
    (retS fun ρ => (tupE (consM (b2 dAdd (b2 ixD (rd ρ 0) (kon (.int 0))) (b2 dMul (rd ρ 3) (rd ρ 1))) (consM (b2 dAdd (b2 ixD (rd ρ 0) (kon (.int 0))) (b2 dMul (rd ρ 3) (b2 dSub (rd ρ 2) (kon (.int 1))))) nilA)))))
noncomputable def g_scan_part : List D → M D := bodyD 4 B_scan_part
noncomputable def L1_nth_address : SM :=
  (seqS (ifS (fun ρ => (b2T dLt (rd ρ 2) (callE 1 g_size_of (consM (rd ρ 3) nilA)))) (retS fun ρ => (b2 ixD (callE 3 g_scan_part (consM (rd ρ 3) (consM (rd ρ 2) (consM (b2 dAdd (rd ρ 2) (kon (.int 1))) nilA)))) (kon (.int 0)))) nxS)
    (setS 2 fun ρ => (b2 dSub (rd ρ 2) (callE 1 g_size_of (consM (rd ρ 3) nilA)))))
noncomputable def B_nth_address : SM :=
  (seqS (expS fun ρ => (callE 1 g_require_list (consM (rd ρ 0) nilA)))
    (seqS (expS fun ρ => (callE 2 g_require_index (consM (rd ρ 1) (consM (callE 1 g_total_of (consM (rd ρ 0) nilA)) nilA))))
    (seqS (setS 2 fun ρ => (rd ρ 1))
    (seqS (forS (fun ρ => (itS (rd ρ 0))) (.nm 3) L1_nth_address)
    (retS fun ρ => (kon .non))))))
noncomputable def g_nth_address : List D → M D := bodyD 4 B_nth_address
noncomputable def B_require_number : SM :=
  (ifS (fun ρ => (notT (valT (callE 3 g_in_range (consM (rd ρ 0) (consM (rd ρ 1) (consM (rd ρ 2) nilA))))))) stkS nxS)
noncomputable def g_require_number : List D → M D := bodyD 3 B_require_number
noncomputable def L1_beginning : SM :=
  (ifS (fun ρ => (b2T dGt (rd ρ 3) (kon (.int 0)))) (seqS (expS fun ρ => (mthE "list" mAppend (rd ρ 2) (consM (callE 3 g_scan_part (consM (rd ρ 4) (consM (kon (.int 0)) (consM (cbE dMin2 (consM (rd ρ 3) (consM (callE 1 g_size_of (consM (rd ρ 4) nilA)) nilA))) nilA)))) nilA)))
    (setS 3 fun ρ => (b2 dSub (rd ρ 3) (callE 1 g_size_of (consM (rd ρ 4) nilA))))) nxS)
noncomputable def B_beginning : SM :=
  (seqS (parS 2 3 fun ρ => (consM (celE (lstE nilA)) (consM (rd ρ 1) nilA)))
    (seqS (forS (fun ρ => (itS (rd ρ 0))) (.nm 4) L1_beginning)
    (retS fun ρ => (rd ρ 2))))
noncomputable def g_beginning : List D → M (List D) := bodyL 5 B_beginning
noncomputable def B_first_part : SM :=
  (seqS (expS fun ρ => (callE 1 g_require_list (consM (rd ρ 0) nilA)))
    (seqS (expS fun ρ => (callE 3 g_require_number (consM (rd ρ 1) (consM (kon (.int 0)) (consM (kon .non) nilA)))))
    (retS fun ρ => (celE (callL 2 g_beginning (consM (frzE (callL 1 g_tidied (consM (rd ρ 0) nilA))) (consM (rd ρ 1) nilA)))))))
noncomputable def g_first_part : List D → M (List D) := bodyL 2 B_first_part
noncomputable def B_require_scan : SM :=
  (ifS (fun ρ => (notT (valT (callE 1 g_is_scan (consM (rd ρ 0) nilA))))) stkS nxS)
noncomputable def g_require_scan : List D → M D := bodyD 1 B_require_scan
noncomputable def B_common_of : SM :=
  (seqS (parS 3 4 fun ρ => (consM (cbE dMax2 (consM (rd ρ 1) (consM (cbE dMinL (consM (rd ρ 0) nilA)) nilA))) (consM (cbE dMin2 (consM (rd ρ 2) (consM (cbE dMaxL (consM (rd ρ 0) nilA)) nilA))) nilA)))
    (seqS (ifS (fun ρ => (b2T dGt (rd ρ 3) (rd ρ 4))) (retS fun ρ => (kon .non)) nxS)
    (retS fun ρ => (ifE (b2T dLe (b2 ixD (rd ρ 0) (kon (.int 0))) (b2 ixD (rd ρ 0) (kon (.int 1)))) (tupE (consM (rd ρ 3) (consM (rd ρ 4) nilA))) (tupE (consM (rd ρ 4) (consM (rd ρ 3) nilA)))))))
noncomputable def g_common_of : List D → M D := bodyD 5 B_common_of
noncomputable def L1_cut : SM :=
  (seqS (setS 8 fun ρ => (callE 3 g_common_of (consM (rd ρ 4) (consM (rd ρ 6) (consM (rd ρ 7) nilA)))))
    (ifS (fun ρ => (b2T dIsNot (rd ρ 8) (kon .non))) (expS fun ρ => (mthE "list" mAppend (rd ρ 3) (consM (rd ρ 8) nilA))) nxS))
noncomputable def L2_cut : SM :=
  (seqS (setS 5 fun ρ => (frzE (lstE (consM (tupE (consM (kon (.int 0)) (consM (b2 dSub (rd ρ 1) (kon (.int 1))) nilA))) (consM (tupE (consM (b2 dAdd (rd ρ 2) (kon (.int 1))) (consM (cbE dMaxL (consM (rd ρ 4) nilA)) nilA))) nilA)))))
    (seqS (ifS (fun ρ => (b2T dGt (b2 ixD (rd ρ 4) (kon (.int 0))) (b2 ixD (rd ρ 4) (kon (.int 1))))) (setS 5 fun ρ => (frzE (revL (rd ρ 5)))) nxS)
    (forS (fun ρ => (itS (rd ρ 5))) (.tp [(.nm 6), (.nm 7)]) L1_cut)))
noncomputable def B_cut : SM :=
  (seqS (setS 3 fun ρ => (celE (lstE nilA)))
    (seqS (forS (fun ρ => (itS (rd ρ 0))) (.nm 4) L2_cut)
    (retS fun ρ => (rd ρ 3))))
noncomputable def g_cut : List D → M (List D) := bodyL 9 B_cut
noncomputable def B_put_on_top : SM :=
  (retS fun ρ => (celE (callL 1 g_tidied (consM (b2 dAdd (frzE (lstE (consM (rd ρ 1) nilA))) (frzE (callL 3 g_cut (consM (rd ρ 0) (consM (cbE dMinL (consM (rd ρ 1) nilA)) (consM (cbE dMaxL (consM (rd ρ 1) nilA)) nilA)))))) nilA))))
noncomputable def g_put_on_top : List D → M (List D) := bodyL 2 B_put_on_top
noncomputable def B_on_top : SM :=
  (seqS (expS fun ρ => (callE 1 g_require_list (consM (rd ρ 0) nilA)))
    (seqS (expS fun ρ => (callE 1 g_require_scan (consM (rd ρ 1) nilA)))
    (retS fun ρ => (celE (callL 2 g_put_on_top (consM (rd ρ 0) (consM (rd ρ 1) nilA)))))))
noncomputable def g_on_top : List D → M (List D) := bodyL 2 B_on_top
noncomputable def B_require_interval : SM :=
  (ifS (fun ρ => (orM (notT (valT (callE 3 g_in_range (consM (rd ρ 0) (consM (kon (.int 0)) (consM (kon .non) nilA)))))) (notT (valT (callE 3 g_in_range (consM (rd ρ 1) (consM (rd ρ 0) (consM (kon .non) nilA)))))))) stkS nxS)
noncomputable def g_require_interval : List D → M D := bodyD 2 B_require_interval
noncomputable def B_without : SM :=
  (seqS (expS fun ρ => (callE 1 g_require_list (consM (rd ρ 0) nilA)))
    (seqS (expS fun ρ => (callE 2 g_require_interval (consM (rd ρ 1) (consM (rd ρ 2) nilA))))
    (retS fun ρ => (celE (callL 1 g_tidied (consM (frzE (callL 3 g_cut (consM (rd ρ 0) (consM (rd ρ 1) (consM (rd ρ 2) nilA))))) nilA))))))
noncomputable def g_without : List D → M (List D) := bodyL 3 B_without
noncomputable def L1__law_joined : SM :=
  (ifS (fun ρ => (andM (b2T dNe (rd ρ 1) (frzE (lstE nilA))) (b2T dEq (cbE dAbs (consM (b2 dSub (b2 ixD (b2 ixD (rd ρ 1) (b1 dNeg (kon (.int 1)))) (kon (.int 1))) (rd ρ 2)) nilA)) (kon (.int 1))))) (stoS (fun ρ => (tupE (consM (b2 ixD (b2 ixD (rd ρ 1) (b1 dNeg (kon (.int 1)))) (kon (.int 0))) (consM (rd ρ 3) nilA)))) (fun ρ => (rd ρ 1)) fun ρ => (b1 dNeg (kon (.int 1)))) (expS fun ρ => (mthE "list" mAppend (rd ρ 1) (consM (tupE (consM (rd ρ 2) (consM (rd ρ 3) nilA))) nilA))))
noncomputable def B__law_joined : SM :=
  (seqS (setS 1 fun ρ => (celE (lstE nilA)))
    (seqS (forS (fun ρ => (itS (rd ρ 0))) (.tp [(.nm 2), (.nm 3)]) L1__law_joined)
    (retS fun ρ => (rd ρ 1))))
noncomputable def g__law_joined : List D → M D := bodyD 4 B__law_joined
noncomputable def B__law_size : SM :=
  (retS fun ρ => (b2 dAdd (cbE dAbs (consM (b2 dSub (b2 ixD (rd ρ 0) (kon (.int 1))) (b2 ixD (rd ρ 0) (kon (.int 0)))) nilA)) (kon (.int 1))))
noncomputable def g__law_size : List D → M D := bodyD 1 B__law_size
noncomputable def B__law_within : SM :=
  (seqS (parS 3 4 fun ρ => (consM (cbE dMax2 (consM (rd ρ 1) (consM (cbE dMinL (consM (rd ρ 0) nilA)) nilA))) (consM (cbE dMin2 (consM (rd ρ 2) (consM (cbE dMaxL (consM (rd ρ 0) nilA)) nilA))) nilA)))
    (seqS (ifS (fun ρ => (b2T dGt (rd ρ 3) (rd ρ 4))) (retS fun ρ => (frzE (lstE nilA))) nxS)
    (retS fun ρ => (frzE (lstE (consM (ifE (b2T dLe (b2 ixD (rd ρ 0) (kon (.int 0))) (b2 ixD (rd ρ 0) (kon (.int 1)))) (tupE (consM (rd ρ 3) (consM (rd ρ 4) nilA))) (tupE (consM (rd ρ 4) (consM (rd ρ 3) nilA)))) nilA))))))
noncomputable def g__law_within : List D → M D := bodyD 5 B__law_within
noncomputable def L1__law_cut : SM :=
  (seqS (setS 5 fun ρ => (frzE (lstE (consM (callE 3 g__law_within (consM (rd ρ 4) (consM (kon (.int 0)) (consM (b2 dSub (rd ρ 1) (kon (.int 1))) nilA)))) (consM (callE 3 g__law_within (consM (rd ρ 4) (consM (b2 dAdd (rd ρ 2) (kon (.int 1))) (consM (cbE dMaxL (consM (rd ρ 4) nilA)) nilA)))) nilA)))))
    (setS 3 fun ρ => (b2 dAdd (rd ρ 3) (ifE (b2T dLe (b2 ixD (rd ρ 4) (kon (.int 0))) (b2 ixD (rd ρ 4) (kon (.int 1)))) (b2 dAdd (b2 ixD (rd ρ 5) (kon (.int 0))) (b2 ixD (rd ρ 5) (kon (.int 1)))) (b2 dAdd (b2 ixD (rd ρ 5) (kon (.int 1))) (b2 ixD (rd ρ 5) (kon (.int 0))))))))
noncomputable def B__law_cut : SM :=
  (seqS (setS 3 fun ρ => (frzE (lstE nilA)))
    (seqS (forS (fun ρ => (itS (rd ρ 0))) (.nm 4) L1__law_cut)
    (retS fun ρ => (rd ρ 3))))
noncomputable def g__law_cut : List D → M D := bodyD 6 B__law_cut
noncomputable def L1__law_first : SM :=
  (ifS (fun ρ => (b2T dGt (rd ρ 3) (kon (.int 0)))) (seqS (setS 5 fun ρ => (cbE dMin2 (consM (rd ρ 3) (consM (callE 1 g__law_size (consM (rd ρ 4) nilA)) nilA))))
    (seqS (setS 6 fun ρ => (ifE (b2T dLe (b2 ixD (rd ρ 4) (kon (.int 0))) (b2 ixD (rd ρ 4) (kon (.int 1)))) (kon (.int 1)) (b1 dNeg (kon (.int 1)))))
    (seqS (expS fun ρ => (mthE "list" mAppend (rd ρ 2) (consM (tupE (consM (b2 ixD (rd ρ 4) (kon (.int 0))) (consM (b2 dAdd (b2 ixD (rd ρ 4) (kon (.int 0))) (b2 dMul (rd ρ 6) (b2 dSub (rd ρ 5) (kon (.int 1))))) nilA))) nilA)))
    (setS 3 fun ρ => (b2 dSub (rd ρ 3) (rd ρ 5)))))) nxS)
noncomputable def B__law_first : SM :=
  (seqS (parS 2 3 fun ρ => (consM (celE (lstE nilA)) (consM (rd ρ 1) nilA)))
    (seqS (forS (fun ρ => (itS (rd ρ 0))) (.nm 4) L1__law_first)
    (retS fun ρ => (rd ρ 2))))
noncomputable def g__law_first : List D → M D := bodyD 7 B__law_first
noncomputable def L1__law_marks : SM :=
  (seqS (setS 4 fun ρ => (b2 ixD (rd ρ 1) (callE 2 g__law_pick (consM (rd ρ 0) (consM (cbE dLen (consM (rd ρ 1) nilA)) nilA)))))
    (seqS (setS 2 fun ρ => (celE (b2L catL (rd ρ 2) (frzE (lstE (consM (b2 ixD (rd ρ 4) (kon (.int 0))) (consM (b2 ixD (rd ρ 4) (kon (.int 1))) (consM (cbE dMax2 (consM (kon (.int 0)) (consM (b2 dSub (cbE dMinL (consM (rd ρ 4) nilA)) (kon (.int 1))) nilA))) (consM (b2 dAdd (cbE dMaxL (consM (rd ρ 4) nilA)) (kon (.int 1))) nilA)))))))))
    (expS fun ρ => (mthE "list" mAppend (rd ρ 2) (consM (b2 dAdd (cbE dMinL (consM (rd ρ 4) nilA)) (callE 2 g__law_pick (consM (rd ρ 0) (consM (callE 1 g__law_size (consM (rd ρ 4) nilA)) nilA)))) nilA)))))
noncomputable def B__law_marks : SM :=
  (seqS (setS 2 fun ρ => (celE (lstE (consM (kon (.int 0)) (consM (b2 dMul (b2 dPow (kon (.int 10)) (kon (.int 64))) (b2 dPow (kon (.int 10)) (kon (.int 35)))) nilA)))))
    (seqS (forS (fun ρ => (itR1 (consM (b2 dMul (kon (.int 4)) (cbE dInt (consM (b2 dNe (rd ρ 1) (frzE (lstE nilA))) nilA))) nilA))) (.nm 3) L1__law_marks)
    (retS fun ρ => (rd ρ 2))))
noncomputable def g__law_marks : List D → M D := bodyD 5 B__law_marks
noncomputable def L1__law_right : SM :=
  (ifS (fun ρ => (chT dLe dLe (cbE dMinL (consM (rd ρ 7) nilA)) (rd ρ 4) (cbE dMaxL (consM (rd ρ 7) nilA)))) (setS 5 fun ρ => (b2 dAdd (cbE dSum (consM (slE (rd ρ 2) noO (smO (rd ρ 6))) nilA)) (cbE dAbs (consM (b2 dSub (rd ρ 4) (b2 ixD (rd ρ 7) (kon (.int 0)))) nilA)))) nxS)
noncomputable def L2__law_right : SM :=
  (seqS (setS 5 fun ρ => (kon .non))
    (seqS (forS (fun ρ => (itN (consM (rd ρ 1) nilA))) (.tp [(.nm 6), (.nm 7)]) L1__law_right)
    (seqS (ifS (fun ρ => (orM (b2T dNe (callE 2 g_place_of (consM (rd ρ 1) (consM (rd ρ 4) nilA))) (rd ρ 5)) (andM (b2T dIsNot (rd ρ 5) (kon .non)) (b2T dNe (callE 2 g_nth_address (consM (rd ρ 1) (consM (rd ρ 5) nilA))) (rd ρ 4))))) (retS fun ρ => (kon (.bl false))) nxS)
    (ifS (fun ρ => (andM (b2T dIsNot (rd ρ 5) (kon .non)) (b2T dNe (frzE (callL 2 g_first_part (consM (rd ρ 1) (consM (b2 dAdd (rd ρ 5) (kon (.int 1))) nilA)))) (callE 1 g__law_joined (consM (callE 2 g__law_first (consM (rd ρ 1) (consM (b2 dAdd (rd ρ 5) (kon (.int 1))) nilA))) nilA))))) (retS fun ρ => (kon (.bl false))) nxS))))
noncomputable def L3__law_right : SM :=
  (seqS (parS 9 10 fun ρ => (consM (b2 ixD (rd ρ 3) (callE 2 g__law_pick (consM (rd ρ 0) (consM (cbE dLen (consM (rd ρ 3) nilA)) nilA)))) (consM (b2 ixD (rd ρ 3) (callE 2 g__law_pick (consM (rd ρ 0) (consM (cbE dLen (consM (rd ρ 3) nilA)) nilA)))) nilA)))
    (seqS (parS 11 12 fun ρ => (consM (cbE dMin2 (consM (rd ρ 9) (consM (rd ρ 10) nilA))) (consM (cbE dMax2 (consM (rd ρ 9) (consM (rd ρ 10) nilA))) nilA)))
    (seqS (ifS (fun ρ => (b2T dNe (frzE (callL 2 g_on_top (consM (rd ρ 1) (consM (tupE (consM (rd ρ 9) (consM (rd ρ 10) nilA))) nilA)))) (callE 1 g__law_joined (consM (b2 dAdd (frzE (lstE (consM (tupE (consM (rd ρ 9) (consM (rd ρ 10) nilA))) nilA))) (callE 3 g__law_cut (consM (rd ρ 1) (consM (rd ρ 11) (consM (rd ρ 12) nilA))))) nilA)))) (retS fun ρ => (kon (.bl false))) nxS)
    (ifS (fun ρ => (b2T dNe (frzE (callL 3 g_without (consM (rd ρ 1) (consM (rd ρ 11) (consM (rd ρ 12) nilA))))) (callE 1 g__law_joined (consM (callE 3 g__law_cut (consM (rd ρ 1) (consM (rd ρ 11) (consM (rd ρ 12) nilA)))) nilA)))) (retS fun ρ => (kon (.bl false))) nxS))))
noncomputable def B__law_right : SM :=
  (seqS (setS 2 fun ρ => (frzE (lcL (itS (rd ρ 1)) (.nm 7) (fun ρ => yesM) (fun ρ => (callE 1 g__law_size (consM (rd ρ 7) nilA))) ρ [7])))
    (seqS (ifS (fun ρ => (b2T dNe (frzE (lstE (consM (frzE (callL 1 g_tidy (consM (rd ρ 1) nilA))) (consM (callE 1 g_count_addresses (consM (rd ρ 1) nilA)) nilA)))) (frzE (lstE (consM (callE 1 g__law_joined (consM (rd ρ 1) nilA)) (consM (cbE dSum (consM (rd ρ 2) nilA)) nilA)))))) (retS fun ρ => (kon (.bl false))) nxS)
    (seqS (ifS (fun ρ => (b2T dNe (frzE (callL 1 g_turned (consM (rd ρ 1) nilA))) (callE 1 g__law_joined (consM (frzE (lcL (itS (frzE (revL (rd ρ 1)))) (.tp [(.nm 13), (.nm 14)]) (fun ρ => yesM) (fun ρ => (tupE (consM (rd ρ 14) (consM (rd ρ 13) nilA)))) ρ [13, 14])) nilA)))) (retS fun ρ => (kon (.bl false))) nxS)
    (seqS (setS 3 fun ρ => (callE 2 g__law_marks (consM (rd ρ 0) (consM (rd ρ 1) nilA))))
    (seqS (forS (fun ρ => (itS (rd ρ 3))) (.nm 4) L2__law_right)
    (seqS (forS (fun ρ => (itR1 (consM (kon (.int 6)) nilA))) (.nm 8) L3__law_right)
    (retS fun ρ => (kon (.bl true)))))))))
noncomputable def g__law_right : List D → M D := bodyD 15 B__law_right
noncomputable def L1_law : SM :=
  (seqS (setS 5 fun ρ => (b2 ixD (frzE (lstE (consM (kon (.int 60)) (consM (b2 dPow (kon (.int 10)) (kon (.int 30))) (consM (b2 dMul (b2 dPow (kon (.int 10)) (kon (.int 64))) (b2 dPow (kon (.int 10)) (kon (.int 35)))) nilA))))) (callE 2 g__law_pick (consM (rd ρ 3) (consM (kon (.int 3)) nilA)))))
    (ifS (fun ρ => (notT (valT (callE 2 g__law_right (consM (rd ρ 3) (consM (callE 3 g__law_list (consM (rd ρ 3) (consM (b2 ixD (frzE (lstE (consM (kon (.int 40)) (consM (kon (.int 200)) nilA)))) (cbE dInt (consM (andE (b2 dEq (rd ρ 1) (kon (.int 0))) (b2 dEq (rd ρ 4) (kon (.int 0)))) nilA))) (consM (rd ρ 5) nilA)))) nilA)))))) (retS fun ρ => (kon (.bl false))) nxS))
noncomputable def L2_law : SM :=
  (seqS (setS 3 fun ρ => (celE (callL 1 g__law_bag (consM (rd ρ 2) nilA))))
    (forS (fun ρ => (itR1 (consM (kon (.int 2)) nilA))) (.nm 4) L1_law))
noncomputable def B_law : SM :=
  (seqS (forS (fun ρ => (itN (consM (b2 dAdd (slE (rd ρ 0) noO (smO (kon (.int 6)))) (frzE (lstE (consM (kon (.int 0)) nilA)))) nilA))) (.tp [(.nm 1), (.nm 2)]) L2_law)
    (retS fun ρ => (kon (.bl true))))
noncomputable def g_law : List D → M D := bodyD 6 B_law
/-! ### .. and that it does -/
section
variable {P : Program} {w : World} {K : PySem.W.Frag} {mg : Str → Option Value} {base h : Heap} {T : Tab}
theorem fr_max (X : K.In h) (G : h.Ns mainGlobals mg) (c : He.SaysD fa fn K) : mg "max" = none := He.free_ok X G (c.fact 40 (f := .free "max") rfl)
theorem fr_int (X : K.In h) (G : h.Ns mainGlobals mg) (c : He.SaysD fa fn K) : mg "int" = none := He.free_ok X G (c.fact 41 (f := .free "int") rfl)
theorem fr_list (X : K.In h) (G : h.Ns mainGlobals mg) (c : He.SaysD fa fn K) : mg "list" = none := He.free_ok X G (c.fact 42 (f := .free "list") rfl)
theorem fr_len (X : K.In h) (G : h.Ns mainGlobals mg) (c : He.SaysD fa fn K) : mg "len" = none := He.free_ok X G (c.fact 43 (f := .free "len") rfl)
theorem fr_range (X : K.In h) (G : h.Ns mainGlobals mg) (c : He.SaysD fa fn K) : mg "range" = none := He.free_ok X G (c.fact 44 (f := .free "range") rfl)
theorem fr_sorted (X : K.In h) (G : h.Ns mainGlobals mg) (c : He.SaysD fa fn K) : mg "sorted" = none := He.free_ok X G (c.fact 45 (f := .free "sorted") rfl)
theorem fr_set (X : K.In h) (G : h.Ns mainGlobals mg) (c : He.SaysD fa fn K) : mg "set" = none := He.free_ok X G (c.fact 46 (f := .free "set") rfl)
theorem fr_zip (X : K.In h) (G : h.Ns mainGlobals mg) (c : He.SaysD fa fn K) : mg "zip" = none := He.free_ok X G (c.fact 47 (f := .free "zip") rfl)
theorem fr_isinstance (X : K.In h) (G : h.Ns mainGlobals mg) (c : He.SaysD fa fn K) : mg "isinstance" = none := He.free_ok X G (c.fact 48 (f := .free "isinstance") rfl)
theorem fr_bool (X : K.In h) (G : h.Ns mainGlobals mg) (c : He.SaysD fa fn K) : mg "bool" = none := He.free_ok X G (c.fact 49 (f := .free "bool") rfl)
theorem fr_all (X : K.In h) (G : h.Ns mainGlobals mg) (c : He.SaysD fa fn K) : mg "all" = none := He.free_ok X G (c.fact 50 (f := .free "all") rfl)
theorem fr_tuple (X : K.In h) (G : h.Ns mainGlobals mg) (c : He.SaysD fa fn K) : mg "tuple" = none := He.free_ok X G (c.fact 51 (f := .free "tuple") rfl)
theorem fr_min (X : K.In h) (G : h.Ns mainGlobals mg) (c : He.SaysD fa fn K) : mg "min" = none := He.free_ok X G (c.fact 52 (f := .free "min") rfl)
theorem fr_abs (X : K.In h) (G : h.Ns mainGlobals mg) (c : He.SaysD fa fn K) : mg "abs" = none := He.free_ok X G (c.fact 53 (f := .free "abs") rfl)
theorem fr_sum (X : K.In h) (G : h.Ns mainGlobals mg) (c : He.SaysD fa fn K) : mg "sum" = none := He.free_ok X G (c.fact 54 (f := .free "sum") rfl)
theorem fr_enumerate (X : K.In h) (G : h.Ns mainGlobals mg) (c : He.SaysD fa fn K) : mg "enumerate" = none := He.free_ok X G (c.fact 55 (f := .free "enumerate") rfl)
theorem ok__law_bag (X : K.In h) (G : h.Ns mainGlobals mg) (c : He.SaysD fa fn K) : FnB P w K mg base 1 "_law_bag" ["cell"] (spL K T 1 g__law_bag) :=
  fnB (c.def_ 0 (d := d__law_bag) rfl) (He.glo_ok X G (c.fact 0 (f := .glo "_law_bag") rfl)) (fun fd F => FunD.bindsN F fun _ _ _ _ _ _ us hl => match us, hl with | [_], _ => rfl) fun fd F =>
    fn_L F sc__law_bag fun cdv A outer s H E hr nr =>
    (es_one (es_ret (ev_cell (evL_lst (ea_cons (ev_cb (cb_max2 rfl) (by rfl) (fr_max X G c) boot_max (ea_cons ev_int (ea_cons (ev_bin op_dSub (ev_var 0 rfl (.inl rfl)) (ev_bin op_dPow ev_int ev_int)) ea_nil))) (ea_cons (ev_var 0 rfl (.inl rfl)) (ea_cons ev_int ea_nil)))))))
theorem ok__law_pick (X : K.In h) (G : h.Ns mainGlobals mg) (c : He.SaysD fa fn K) : FnB P w K mg base 1 "_law_pick" ["bag", "many"] (spD K T 2 g__law_pick) :=
  fnB (c.def_ 1 (d := d__law_pick) rfl) (He.glo_ok X G (c.fact 1 (f := .glo "_law_pick") rfl)) (fun fd F => FunD.bindsN F fun _ _ _ _ _ _ us hl => match us, hl with | [_, _], _ => rfl) fun fd F =>
    fn_D F sc__law_pick fun cdv A outer s H E hr nr =>
    (es_cons (es_store (ev_bin op_dAdd (ev_ix (ev_var 0 rfl (.inl rfl)) ev_int (fun _ _ => rfl)) ev_int) (ev_var 0 rfl (.inl rfl)) ev_int)
    (es_cons (es_if (ev_cmpT op_dGt rfl (ev_ix (ev_var 0 rfl (.inl rfl)) ev_int (fun _ _ => rfl)) ev_int) (es_cons (es_set (i := 2) sc__law_pick.nd rfl (.inl rfl) (ev_bin op_dMod (ev_ct ct_int (by rfl) (fr_int X G c) boot_int (ea_cons (ev_ix (ev_var 0 rfl (.inl rfl)) ev_int (fun _ _ => rfl)) ea_nil)) (ev_var 1 rfl (.inl rfl))))
    (es_cons (es_store (ev_bin op_dDiv (ev_ct ct_int (by rfl) (fr_int X G c) boot_int (ea_cons (ev_ix (ev_var 0 rfl (.inl rfl)) ev_int (fun _ _ => rfl)) ea_nil)) (ev_var 1 rfl (.inl rfl))) (ev_var 0 rfl (.inl rfl)) ev_int)
    (es_one (es_ret (ev_var 2 rfl (.inl rfl)))))) es_nil)
    (es_cons (es_par (i := 3) (j := 4) rfl sc__law_pick.nd rfl rfl (by decide) rfl rfl (ea_cons (ev_ct ct_int (by rfl) (fr_int X G c) boot_int (ea_cons (ev_ix (ev_var 0 rfl (.inl rfl)) ev_int (fun _ _ => rfl)) ea_nil)) (ea_cons (ev_ct ct_int (by rfl) (fr_int X G c) boot_int (ea_cons (ev_ix (ev_var 0 rfl (.inl rfl)) ev_int (fun _ _ => rfl)) ea_nil)) ea_nil)) rfl)
    (es_cons (es_set (i := 5) sc__law_pick.nd rfl (.inl rfl) (ev_bin op_dMod (ev_ct ct_int (by rfl) (fr_int X G c) boot_int (ea_cons (ev_bin op_dAdd (ev_bin op_dAdd (ev_bin op_dMul (ev_bin op_dMod (ev_var 3 rfl (.inl rfl)) ev_int) ev_int) (ev_bin op_dMul (ev_var 4 rfl (.inl rfl)) ev_int)) ev_int) ea_nil)) ev_int))
    (es_cons (es_set (i := 6) sc__law_pick.nd rfl (.inl rfl) (ev_bin op_dMod (ev_ct ct_int (by rfl) (fr_int X G c) boot_int (ea_cons (ev_bin op_dAdd (ev_bin op_dMul (ev_var 5 rfl (.inl rfl)) (ev_var 5 rfl (.inl rfl))) (ev_bin op_dMul (ev_var 4 rfl (.inl rfl)) ev_int)) ea_nil)) ev_int))
    (es_one (es_ret (ev_bin op_dMod (ev_ct ct_int (by rfl) (fr_int X G c) boot_int (ea_cons (ev_bin op_dDiv (ev_bin op_dAdd (ev_bin op_dMul (ev_var 5 rfl (.inl rfl)) ev_int) (ev_var 6 rfl (.inl rfl))) ev_int) ea_nil)) (ev_var 1 rfl (.inl rfl))))))))))
theorem ok__law_mixed (X : K.In h) (G : h.Ns mainGlobals mg) (c : He.SaysD fa fn K) : FnB P w K mg base 2 "_law_mixed" ["bag", "items"] (spD K T 2 g__law_mixed) :=
  fnB (c.def_ 2 (d := d__law_mixed) rfl) (He.glo_ok X G (c.fact 2 (f := .glo "_law_mixed") rfl)) (fun fd F => FunD.bindsN F fun _ _ _ _ _ _ us hl => match us, hl with | [_, _], _ => rfl) fun fd F =>
    fn_D F sc__law_mixed fun cdv A outer s H E hr nr =>
    (es_cons (es_par (i := 2) (j := 3) rfl sc__law_mixed.nd rfl rfl (by decide) rfl rfl (ea_cons (ev_cell (evL_ct ct_list (by rfl) (fr_list X G c) boot_list (ea_cons (ev_var 1 rfl (.inl rfl)) ea_nil))) (ea_cons (ev_cell (evL_lst ea_nil)) ea_nil)) rfl)
    (es_cons (es_while PassesOwn.never (ev_cmpT (op_dNe hr.units) rfl (ev_var 2 rfl (.inl rfl)) (ev_frz (evL_lst ea_nil))) (es_one (es_expr (ev_meth PySem.F.plainAttrs_list PySem.F.slot_list_append PySem.F.type_list_append mt_mAppend (ev_var 3 rfl (.inl rfl)) (ea_cons (ev_meth PySem.F.plainAttrs_list PySem.F.slot_list_pop PySem.F.type_list_pop mt_mPopAt (ev_var 2 rfl (.inl rfl)) (ea_cons (ev_callB (ok__law_pick X G c) hr (by decide) nr (by rfl) (ea_cons (ev_var 0 rfl (.inl rfl)) (ea_cons (ev_cb cb_len (by rfl) (fr_len X G c) boot_len (ea_cons (ev_var 2 rfl (.inl rfl)) ea_nil)) ea_nil))) ea_nil)) ea_nil)))))
    (es_one (es_ret (ev_var 3 rfl (.inl rfl))))))
theorem ok__law_list (X : K.In h) (G : h.Ns mainGlobals mg) (c : He.SaysD fa fn K) : FnB P w K mg base 3 "_law_list" ["bag", "many", "wide"] (spD K T 3 g__law_list) :=
  fnB (c.def_ 3 (d := d__law_list) rfl) (He.glo_ok X G (c.fact 3 (f := .glo "_law_list") rfl)) (fun fd F => FunD.bindsN F fun _ _ _ _ _ _ us hl => match us, hl with | [_, _, _], _ => rfl) fun fd F =>
    fn_D F sc__law_list fun cdv A outer s H E hr nr =>
    (es_cons (es_set (i := 3) sc__law_list.nd rfl (.inl rfl) (ev_frz (evL_sortedSet rfl (by rfl) (fr_sorted X G c) boot_sorted (by rfl) (fr_set X G c) boot_set (ev_frz (evL_lc (own := [("k", 7)]) rfl sc__law_list.nd (ei_range1 (by rfl) (fr_range X G c) (ea_cons (ev_bin op_dAdd ev_int (ev_callB (ok__law_pick X G c) hr (by decide) nr (by rfl) (ea_cons (ev_var 0 rfl (.inr (.inl rfl))) (ea_cons (ev_var 1 rfl (.inl rfl)) ea_nil)))) ea_nil)) (blkOk_by (N := N__law_list) (sc := (defScope s__law_list)) (own := [("k", 7)]) (by decide +kernel)) (fun _ _ _ _ _ => (eg_name 7 sc__law_list.nd rfl (.inl rfl))) (fun _ _ _ _ _ => ets_nil) (fun _ _ _ _ _ => (ev_callB (ok__law_pick X G c) hr (by decide) nr (by rfl) (ea_cons (ev_var 0 rfl (.inr (.inl rfl))) (ea_cons (ev_var 2 rfl (.inr (.inl rfl))) ea_nil)))))))))
    (es_cons (es_set (i := 4) sc__law_list.nd rfl (.inl rfl) (ev_cell (evL_lst ea_nil)))
    (es_cons (es_for PassesOwn.never rfl (ei_zip (by rfl) (fr_zip X G c) (ea_cons (ev_var 3 rfl (.inl rfl)) (ea_cons (ev_slice (ev_var 3 rfl (.inl rfl)) (eo_some ev_int) eo_none) ea_nil))) (eg_tup rfl (egs_cons (eg_name 5 sc__law_list.nd rfl (.inl rfl)) (egs_cons (eg_name 6 sc__law_list.nd rfl (.inl rfl)) egs_nil))) (es_one (es_if (ev_cmpT op_dGt rfl (ev_callB (ok__law_pick X G c) hr (by decide) nr (by rfl) (ea_cons (ev_var 0 rfl (.inr (.inl rfl))) (ea_cons ev_int ea_nil))) ev_int) (es_one (es_expr (ev_meth PySem.F.plainAttrs_list PySem.F.slot_list_append PySem.F.type_list_append mt_mAppend (ev_var 4 rfl (.inl rfl)) (ea_cons (ev_ix (ev_frz (evL_lst (ea_cons (ev_tup (ea_cons (ev_var 5 rfl (.inl rfl)) (ea_cons (ev_bin op_dSub (ev_var 6 rfl (.inl rfl)) ev_int) ea_nil))) (ea_cons (ev_tup (ea_cons (ev_bin op_dSub (ev_var 6 rfl (.inl rfl)) ev_int) (ea_cons (ev_var 5 rfl (.inl rfl)) ea_nil))) ea_nil)))) (ev_callB (ok__law_pick X G c) hr (by decide) nr (by rfl) (ea_cons (ev_var 0 rfl (.inr (.inl rfl))) (ea_cons ev_int ea_nil))) (fun _ _ => rfl)) ea_nil)))) es_nil)))
    (es_cons (es_if (ev_cmpT (op_dEq hr.units) rfl (ev_callB (ok__law_pick X G c) hr (by decide) nr (by rfl) (ea_cons (ev_var 0 rfl (.inr (.inl rfl))) (ea_cons ev_int ea_nil))) ev_int) (es_cons (es_set (i := 4) sc__law_list.nd rfl (.inl rfl) (ev_cell (evL_step (ev_frz (evL_cb cb_sorted (by rfl) (fr_sorted X G c) boot_sorted (ea_cons (ev_var 4 rfl (.inl rfl)) ea_nil))) (ev_ix (ev_frz (evL_lst (ea_cons ev_int (ea_cons (ev_un un_dNeg ev_int) ea_nil)))) (ev_callB (ok__law_pick X G c) hr (by decide) nr (by rfl) (ea_cons (ev_var 0 rfl (.inr (.inl rfl))) (ea_cons ev_int ea_nil))) (fun _ _ => rfl)))))
    (es_one (es_ret (ev_var 4 rfl (.inl rfl))))) es_nil)
    (es_one (es_ret (ev_callB (ok__law_mixed X G c) hr (by decide) nr (by rfl) (ea_cons (ev_var 0 rfl (.inr (.inl rfl))) (ea_cons (ev_fz (ev_var 4 rfl (.inl rfl))) ea_nil)))))))))
theorem ok_is_int (X : K.In h) (G : h.Ns mainGlobals mg) (c : He.SaysD fa fn K) : FnB P w K mg base 1 "is_int" ["value"] (spD K T 1 g_is_int) :=
  fnB (c.def_ 4 (d := d_is_int) rfl) (He.glo_ok X G (c.fact 4 (f := .glo "is_int") rfl)) (fun fd F => FunD.bindsN F fun _ _ _ _ _ _ us hl => match us, hl with | [_], _ => rfl) fun fd F =>
    fn_D F sc_is_int fun cdv A outer s H E hr nr =>
    (es_one (es_ret (ev_and (ev_isi tabInt hk_int (by rfl) (fr_isinstance X G c) boot_isinstance (ev_var 0 rfl (.inl rfl)) (by rfl) (fr_int X G c) boot_int) (ev_one (ev_not (ev_isi (tabIs "bool") hk_bool (by rfl) (fr_isinstance X G c) boot_isinstance (ev_var 0 rfl (.inl rfl)) (by rfl) (fr_bool X G c) boot_bool))))))
theorem ok_in_range (X : K.In h) (G : h.Ns mainGlobals mg) (c : He.SaysD fa fn K) : FnB P w K mg base 2 "in_range" ["value", "low", "high"] (spD K T 3 g_in_range) :=
  fnB (c.def_ 5 (d := d_in_range) rfl) (He.glo_ok X G (c.fact 5 (f := .glo "in_range") rfl)) (fun fd F => FunD.bindsN F fun _ _ _ _ _ _ us hl => match us, hl with | [_, _, _], _ => rfl) fun fd F =>
    fn_D F sc_in_range fun cdv A outer s H E hr nr =>
    (es_one (es_ret (ev_and (ev_callB (ok_is_int X G c) hr (by decide) nr (by rfl) (ea_cons (ev_var 0 rfl (.inl rfl)) ea_nil)) (ev_and (ev_cmp op_dLe rfl (ev_var 1 rfl (.inl rfl)) (ev_var 0 rfl (.inl rfl))) (ev_one (ev_or (ev_cmp op_dIs rfl (ev_var 2 rfl (.inl rfl)) ev_non) (ev_one (ev_cmp op_dLe rfl (ev_var 0 rfl (.inl rfl)) (ev_var 2 rfl (.inl rfl))))))))))
theorem ok_is_scan (X : K.In h) (G : h.Ns mainGlobals mg) (c : He.SaysD fa fn K) : FnB P w K mg base 3 "is_scan" ["value"] (spD K T 1 g_is_scan) :=
  fnB (c.def_ 6 (d := d_is_scan) rfl) (He.glo_ok X G (c.fact 6 (f := .glo "is_scan") rfl)) (fun fd F => FunD.bindsN F fun _ _ _ _ _ _ us hl => match us, hl with | [_], _ => rfl) fun fd F =>
    fn_D F sc_is_scan fun cdv A outer s H E hr nr =>
    (es_one (es_ret (ev_and (ev_isi (tabIs "tuple") hk_tuple (by rfl) (fr_isinstance X G c) boot_isinstance (ev_var 0 rfl (.inl rfl)) (by rfl) (fr_tuple X G c) boot_tuple) (ev_and (ev_cmp (op_dEq hr.units) rfl (ev_cb cb_len (by rfl) (fr_len X G c) boot_len (ea_cons (ev_var 0 rfl (.inl rfl)) ea_nil)) ev_int) (ev_one (ev_cb (cb_all rfl) (by rfl) (fr_all X G c) boot_all (ea_cons (ev_frz (evL_lc (own := [("number", 1)]) rfl sc_is_scan.nd (ei_seq (ev_var 0 rfl (.inl rfl))) (blkOk_by (N := N_is_scan) (sc := (defScope s_is_scan)) (own := [("number", 1)]) (by decide +kernel)) (fun _ _ _ _ _ => (eg_name 1 sc_is_scan.nd rfl (.inl rfl))) (fun _ _ _ _ _ => ets_nil) (fun _ _ _ _ _ => (ev_callB (ok_in_range X G c) hr (by decide) nr (by rfl) (ea_cons (ev_var 1 rfl (.inl rfl)) (ea_cons ev_int (ea_cons ev_non ea_nil))))))) ea_nil)))))))
theorem ok_is_list (X : K.In h) (G : h.Ns mainGlobals mg) (c : He.SaysD fa fn K) : FnB P w K mg base 4 "is_list" ["value"] (spD K T 1 g_is_list) :=
  fnB (c.def_ 7 (d := d_is_list) rfl) (He.glo_ok X G (c.fact 7 (f := .glo "is_list") rfl)) (fun fd F => FunD.bindsN F fun _ _ _ _ _ _ us hl => match us, hl with | [_], _ => rfl) fun fd F =>
    fn_D F sc_is_list fun cdv A outer s H E hr nr =>
    (es_cons (es_if (evt_of (evw_or (evt_not (ev_val (ev_isi (tabIs "list") hk_list (by rfl) (fr_isinstance X G c) boot_isinstance (ev_var 0 rfl (.inl rfl)) (by rfl) (fr_list X G c) boot_list))) (evw_or1 (evt_not (ev_val (ev_cb (cb_all rfl) (by rfl) (fr_all X G c) boot_all (ea_cons (ev_frz (evL_lc (own := [("scan", 4)]) rfl sc_is_list.nd (ei_seq (ev_var 0 rfl (.inl rfl))) (blkOk_by (N := N_is_list) (sc := (defScope s_is_list)) (own := [("scan", 4)]) (by decide +kernel)) (fun _ _ _ _ _ => (eg_name 4 sc_is_list.nd rfl (.inl rfl))) (fun _ _ _ _ _ => ets_nil) (fun _ _ _ _ _ => (ev_callB (ok_is_scan X G c) hr (by decide) nr (by rfl) (ea_cons (ev_var 4 rfl (.inl rfl)) ea_nil))))) ea_nil))))))) (es_one (es_ret ev_bl)) es_nil)
    (es_cons (es_set (i := 1) sc_is_list.nd rfl (.inl rfl) (ev_un un_dNeg ev_int))
    (es_cons (es_for PassesOwn.never rfl (ei_seq (ev_frz (evL_cb cb_sorted (by rfl) (fr_sorted X G c) boot_sorted (ea_cons (ev_frz (evL_lc (own := [("scan", 4)]) rfl sc_is_list.nd (ei_seq (ev_var 0 rfl (.inl rfl))) (blkOk_by (N := N_is_list) (sc := (defScope s_is_list)) (own := [("scan", 4)]) (by decide +kernel)) (fun _ _ _ _ _ => (eg_name 4 sc_is_list.nd rfl (.inl rfl))) (fun _ _ _ _ _ => ets_nil) (fun _ _ _ _ _ => (ev_tup (ea_cons (ev_cb (cb_minL rfl hr.units) (by rfl) (fr_min X G c) boot_min (ea_cons (ev_var 4 rfl (.inl rfl)) ea_nil)) (ea_cons (ev_cb (cb_maxL rfl hr.units) (by rfl) (fr_max X G c) boot_max (ea_cons (ev_var 4 rfl (.inl rfl)) ea_nil)) ea_nil)))))) ea_nil)))) (eg_tup rfl (egs_cons (eg_name 2 sc_is_list.nd rfl (.inl rfl)) (egs_cons (eg_name 3 sc_is_list.nd rfl (.inl rfl)) egs_nil))) (es_cons (es_if (ev_cmpT op_dLe rfl (ev_var 2 rfl (.inl rfl)) (ev_var 1 rfl (.inl rfl))) (es_one (es_ret ev_bl)) es_nil)
    (es_one (es_set (i := 1) sc_is_list.nd rfl (.inl rfl) (ev_var 3 rfl (.inl rfl))))))
    (es_one (es_ret ev_bl)))))
theorem ok_require_list (X : K.In h) (G : h.Ns mainGlobals mg) (c : He.SaysD fa fn K) : FnB P w K mg base 5 "require_list" ["value"] (spD K T 1 g_require_list) :=
  fnB (c.def_ 8 (d := d_require_list) rfl) (He.glo_ok X G (c.fact 8 (f := .glo "require_list") rfl)) (fun fd F => FunD.bindsN F fun _ _ _ _ _ _ us hl => match us, hl with | [_], _ => rfl) fun fd F =>
    fn_D F sc_require_list fun cdv A outer s H E hr nr =>
    (es_one (es_if (evt_not (ev_val (ev_callB (ok_is_list X G c) hr (by decide) nr (by rfl) (ea_cons (ev_var 0 rfl (.inl rfl)) ea_nil)))) (es_one es_never) es_nil))
theorem ok_tidied (X : K.In h) (G : h.Ns mainGlobals mg) (c : He.SaysD fa fn K) : FnB P w K mg base 1 "tidied" ["scans"] (spL K T 1 g_tidied) :=
  fnB (c.def_ 9 (d := d_tidied) rfl) (He.glo_ok X G (c.fact 9 (f := .glo "tidied") rfl)) (fun fd F => FunD.bindsN F fun _ _ _ _ _ _ us hl => match us, hl with | [_], _ => rfl) fun fd F =>
    fn_L F sc_tidied fun cdv A outer s H E hr nr =>
    (es_cons (es_setLc (i := 1) (own := [("at", 3)]) rfl sc_tidied.nd rfl rfl (sw_true rfl rfl rfl (by decide +kernel)) (ei_range1 (by rfl) (fr_range X G c) (ea_cons (ev_cb cb_len (by rfl) (fr_len X G c) boot_len (ea_cons (ev_var 0 rfl (.inr (.inl rfl))) ea_nil)) ea_nil)) (blkOk_by (N := N_tidied) (sc := (defScope s_tidied)) (own := [("at", 3)]) (by decide +kernel)) (fun _ _ _ _ _ => (eg_name 3 sc_tidied.nd rfl (.inl rfl))) (fun _ _ _ _ _ => (ets_one (evt_of (evw_or (ev_cmpT (op_dEq hr.units) rfl (ev_var 3 rfl (.inl rfl)) ev_int) (evw_or1 (ev_cmpT (op_dNe hr.units) rfl (ev_cb cb_abs (by rfl) (fr_abs X G c) boot_abs (ea_cons (ev_bin op_dSub (ev_ix (ev_ix (ev_var 0 rfl (.inr (.inl rfl))) (ev_bin op_dSub (ev_var 3 rfl (.inl rfl)) ev_int) (fun _ _ => rfl)) ev_int (fun _ _ => rfl)) (ev_ix (ev_ix (ev_var 0 rfl (.inr (.inl rfl))) (ev_var 3 rfl (.inl rfl)) (fun _ _ => rfl)) ev_int (fun _ _ => rfl))) ea_nil)) ev_int)))))) (fun _ _ _ _ _ => (ev_var 3 rfl (.inl rfl))))
    (es_cons (es_set (i := 2) sc_tidied.nd rfl (.inl rfl) (ev_bin op_dAdd (ev_slice (ev_var 1 rfl (.inl rfl)) (eo_some ev_int) eo_none) (ev_frz (evL_lst (ea_cons (ev_cb cb_len (by rfl) (fr_len X G c) boot_len (ea_cons (ev_var 0 rfl (.inr (.inl rfl))) ea_nil)) ea_nil)))))
    (es_one (es_ret (ev_cell (evL_lc (own := [("begin", 4), ("end", 5)]) rfl sc_tidied.nd (ei_zip (by rfl) (fr_zip X G c) (ea_cons (ev_var 1 rfl (.inl rfl)) (ea_cons (ev_var 2 rfl (.inl rfl)) ea_nil))) (blkOk_by (N := N_tidied) (sc := (defScope s_tidied)) (own := [("begin", 4), ("end", 5)]) (by decide +kernel)) (fun _ _ _ _ _ => (eg_tup rfl (egs_cons (eg_name 4 sc_tidied.nd rfl (.inl rfl)) (egs_cons (eg_name 5 sc_tidied.nd rfl (.inl rfl)) egs_nil)))) (fun _ _ _ _ _ => ets_nil) (fun _ _ _ _ _ => (ev_tup (ea_cons (ev_ix (ev_ix (ev_var 0 rfl (.inr (.inl rfl))) (ev_var 4 rfl (.inl rfl)) (fun _ _ => rfl)) ev_int (fun _ _ => rfl)) (ea_cons (ev_ix (ev_ix (ev_var 0 rfl (.inr (.inl rfl))) (ev_bin op_dSub (ev_var 5 rfl (.inl rfl)) ev_int) (fun _ _ => rfl)) ev_int (fun _ _ => rfl)) ea_nil))))))))))
theorem ok_tidy (X : K.In h) (G : h.Ns mainGlobals mg) (c : He.SaysD fa fn K) : FnB P w K mg base 6 "tidy" ["scans"] (spL K T 1 g_tidy) :=
  fnB (c.def_ 10 (d := d_tidy) rfl) (He.glo_ok X G (c.fact 10 (f := .glo "tidy") rfl)) (fun fd F => FunD.bindsN F fun _ _ _ _ _ _ us hl => match us, hl with | [_], _ => rfl) fun fd F =>
    fn_L F sc_tidy fun cdv A outer s H E hr nr =>
    (es_cons (es_expr (ev_callB (ok_require_list X G c) hr (by decide) nr (by rfl) (ea_cons (ev_var 0 rfl (.inl rfl)) ea_nil)))
    (es_one (es_ret (ev_cell (evL_callB (ok_tidied X G c) hr (by decide) nr (by rfl) (ea_cons (ev_var 0 rfl (.inl rfl)) ea_nil))))))
theorem ok_size_of (X : K.In h) (G : h.Ns mainGlobals mg) (c : He.SaysD fa fn K) : FnB P w K mg base 1 "size_of" ["scan"] (spD K T 1 g_size_of) :=
  fnB (c.def_ 11 (d := d_size_of) rfl) (He.glo_ok X G (c.fact 11 (f := .glo "size_of") rfl)) (fun fd F => FunD.bindsN F fun _ _ _ _ _ _ us hl => match us, hl with | [_], _ => rfl) fun fd F =>
    fn_D F sc_size_of fun cdv A outer s H E hr nr =>
    (es_one (es_ret (ev_bin op_dAdd (ev_cb cb_abs (by rfl) (fr_abs X G c) boot_abs (ea_cons (ev_bin op_dSub (ev_ix (ev_var 0 rfl (.inl rfl)) ev_int (fun _ _ => rfl)) (ev_ix (ev_var 0 rfl (.inl rfl)) ev_int (fun _ _ => rfl))) ea_nil)) ev_int)))
theorem ok_total_of (X : K.In h) (G : h.Ns mainGlobals mg) (c : He.SaysD fa fn K) : FnB P w K mg base 2 "total_of" ["scans"] (spD K T 1 g_total_of) :=
  fnB (c.def_ 12 (d := d_total_of) rfl) (He.glo_ok X G (c.fact 12 (f := .glo "total_of") rfl)) (fun fd F => FunD.bindsN F fun _ _ _ _ _ _ us hl => match us, hl with | [_], _ => rfl) fun fd F =>
    fn_D F sc_total_of fun cdv A outer s H E hr nr =>
    (es_one (es_ret (ev_cb (cb_sum rfl) (by rfl) (fr_sum X G c) boot_sum (ea_cons (ev_frz (evL_lc (own := [("scan", 1)]) rfl sc_total_of.nd (ei_seq (ev_var 0 rfl (.inl rfl))) (blkOk_by (N := N_total_of) (sc := (defScope s_total_of)) (own := [("scan", 1)]) (by decide +kernel)) (fun _ _ _ _ _ => (eg_name 1 sc_total_of.nd rfl (.inl rfl))) (fun _ _ _ _ _ => ets_nil) (fun _ _ _ _ _ => (ev_callB (ok_size_of X G c) hr (by decide) nr (by rfl) (ea_cons (ev_var 1 rfl (.inl rfl)) ea_nil))))) ea_nil))))
theorem ok_count_addresses (X : K.In h) (G : h.Ns mainGlobals mg) (c : He.SaysD fa fn K) : FnB P w K mg base 6 "count_addresses" ["scans"] (spD K T 1 g_count_addresses) :=
  fnB (c.def_ 13 (d := d_count_addresses) rfl) (He.glo_ok X G (c.fact 13 (f := .glo "count_addresses") rfl)) (fun fd F => FunD.bindsN F fun _ _ _ _ _ _ us hl => match us, hl with | [_], _ => rfl) fun fd F =>
    fn_D F sc_count_addresses fun cdv A outer s H E hr nr =>
    (es_cons (es_expr (ev_callB (ok_require_list X G c) hr (by decide) nr (by rfl) (ea_cons (ev_var 0 rfl (.inl rfl)) ea_nil)))
    (es_one (es_ret (ev_callB (ok_total_of X G c) hr (by decide) nr (by rfl) (ea_cons (ev_var 0 rfl (.inl rfl)) ea_nil)))))
theorem ok_reversed_list (X : K.In h) (G : h.Ns mainGlobals mg) (c : He.SaysD fa fn K) : FnB P w K mg base 1 "reversed_list" ["scans"] (spL K T 1 g_reversed_list) :=
  fnB (c.def_ 14 (d := d_reversed_list) rfl) (He.glo_ok X G (c.fact 14 (f := .glo "reversed_list") rfl)) (fun fd F => FunD.bindsN F fun _ _ _ _ _ _ us hl => match us, hl with | [_], _ => rfl) fun fd F =>
    fn_L F sc_reversed_list fun cdv A outer s H E hr nr =>
    (es_one (es_ret (ev_cell (evL_lc (own := [("first", 1), ("last", 2)]) rfl sc_reversed_list.nd (ei_seq (ev_frz (evL_rev (ev_var 0 rfl (.inl rfl))))) (blkOk_by (N := N_reversed_list) (sc := (defScope s_reversed_list)) (own := [("first", 1), ("last", 2)]) (by decide +kernel)) (fun _ _ _ _ _ => (eg_tup rfl (egs_cons (eg_name 1 sc_reversed_list.nd rfl (.inl rfl)) (egs_cons (eg_name 2 sc_reversed_list.nd rfl (.inl rfl)) egs_nil)))) (fun _ _ _ _ _ => ets_nil) (fun _ _ _ _ _ => (ev_tup (ea_cons (ev_var 2 rfl (.inl rfl)) (ea_cons (ev_var 1 rfl (.inl rfl)) ea_nil))))))))
theorem ok_turned (X : K.In h) (G : h.Ns mainGlobals mg) (c : He.SaysD fa fn K) : FnB P w K mg base 6 "turned" ["scans"] (spL K T 1 g_turned) :=
  fnB (c.def_ 15 (d := d_turned) rfl) (He.glo_ok X G (c.fact 15 (f := .glo "turned") rfl)) (fun fd F => FunD.bindsN F fun _ _ _ _ _ _ us hl => match us, hl with | [_], _ => rfl) fun fd F =>
    fn_L F sc_turned fun cdv A outer s H E hr nr =>
    (es_cons (es_expr (ev_callB (ok_require_list X G c) hr (by decide) nr (by rfl) (ea_cons (ev_var 0 rfl (.inl rfl)) ea_nil)))
    (es_one (es_ret (ev_cell (evL_callB (ok_reversed_list X G c) hr (by decide) nr (by rfl) (ea_cons (ev_frz (evL_callB (ok_tidied X G c) hr (by decide) nr (by rfl) (ea_cons (ev_var 0 rfl (.inl rfl)) ea_nil))) ea_nil))))))
theorem ok_require_address (X : K.In h) (G : h.Ns mainGlobals mg) (c : He.SaysD fa fn K) : FnB P w K mg base 3 "require_address" ["value"] (spD K T 1 g_require_address) :=
  fnB (c.def_ 16 (d := d_require_address) rfl) (He.glo_ok X G (c.fact 16 (f := .glo "require_address") rfl)) (fun fd F => FunD.bindsN F fun _ _ _ _ _ _ us hl => match us, hl with | [_], _ => rfl) fun fd F =>
    fn_D F sc_require_address fun cdv A outer s H E hr nr =>
    (es_one (es_if (evt_not (ev_val (ev_callB (ok_in_range X G c) hr (by decide) nr (by rfl) (ea_cons (ev_var 0 rfl (.inl rfl)) (ea_cons ev_int (ea_cons ev_non ea_nil)))))) (es_one es_never) es_nil))
theorem ok_place_in (X : K.In h) (G : h.Ns mainGlobals mg) (c : He.SaysD fa fn K) : FnB P w K mg base 2 "place_in" ["scans", "address"] (spD K T 2 g_place_in) :=
  fnB (c.def_ 17 (d := d_place_in) rfl) (He.glo_ok X G (c.fact 17 (f := .glo "place_in") rfl)) (fun fd F => FunD.bindsN F fun _ _ _ _ _ _ us hl => match us, hl with | [_, _], _ => rfl) fun fd F =>
    fn_D F sc_place_in fun cdv A outer s H E hr nr =>
    (es_cons (es_set (i := 2) sc_place_in.nd rfl (.inl rfl) ev_int)
    (es_cons (es_for PassesOwn.never rfl (ei_seq (ev_var 0 rfl (.inl rfl))) (eg_name 3 sc_place_in.nd rfl (.inl rfl)) (es_cons (es_if (evt_chain op_dLe op_dLe (ev_cb (cb_minL rfl hr.units) (by rfl) (fr_min X G c) boot_min (ea_cons (ev_var 3 rfl (.inl rfl)) ea_nil)) (ev_var 1 rfl (.inl rfl)) (ev_cb (cb_maxL rfl hr.units) (by rfl) (fr_max X G c) boot_max (ea_cons (ev_var 3 rfl (.inl rfl)) ea_nil))) (es_one (es_ret (ev_bin op_dAdd (ev_var 2 rfl (.inl rfl)) (ev_cb cb_abs (by rfl) (fr_abs X G c) boot_abs (ea_cons (ev_bin op_dSub (ev_var 1 rfl (.inl rfl)) (ev_ix (ev_var 3 rfl (.inl rfl)) ev_int (fun _ _ => rfl))) ea_nil))))) es_nil)
    (es_one (es_set (i := 2) sc_place_in.nd rfl (.inl rfl) (ev_bin op_dAdd (ev_var 2 rfl (.inl rfl)) (ev_callB (ok_size_of X G c) hr (by decide) nr (by rfl) (ea_cons (ev_var 3 rfl (.inl rfl)) ea_nil)))))))
    (es_one (es_ret ev_non))))
theorem ok_place_of (X : K.In h) (G : h.Ns mainGlobals mg) (c : He.SaysD fa fn K) : FnB P w K mg base 6 "place_of" ["scans", "address"] (spD K T 2 g_place_of) :=
  fnB (c.def_ 18 (d := d_place_of) rfl) (He.glo_ok X G (c.fact 18 (f := .glo "place_of") rfl)) (fun fd F => FunD.bindsN F fun _ _ _ _ _ _ us hl => match us, hl with | [_, _], _ => rfl) fun fd F =>
    fn_D F sc_place_of fun cdv A outer s H E hr nr =>
    (es_cons (es_expr (ev_callB (ok_require_list X G c) hr (by decide) nr (by rfl) (ea_cons (ev_var 0 rfl (.inl rfl)) ea_nil)))
    (es_cons (es_expr (ev_callB (ok_require_address X G c) hr (by decide) nr (by rfl) (ea_cons (ev_var 1 rfl (.inl rfl)) ea_nil)))
    (es_one (es_ret (ev_callB (ok_place_in X G c) hr (by decide) nr (by rfl) (ea_cons (ev_var 0 rfl (.inl rfl)) (ea_cons (ev_var 1 rfl (.inl rfl)) ea_nil)))))))
theorem ok_require_index (X : K.In h) (G : h.Ns mainGlobals mg) (c : He.SaysD fa fn K) : FnB P w K mg base 3 "require_index" ["value", "many"] (spD K T 2 g_require_index) :=
  fnB (c.def_ 19 (d := d_require_index) rfl) (He.glo_ok X G (c.fact 19 (f := .glo "require_index") rfl)) (fun fd F => FunD.bindsN F fun _ _ _ _ _ _ us hl => match us, hl with | [_, _], _ => rfl) fun fd F =>
    fn_D F sc_require_index fun cdv A outer s H E hr nr =>
    (es_one (es_if (evt_not (ev_val (ev_callB (ok_in_range X G c) hr (by decide) nr (by rfl) (ea_cons (ev_var 0 rfl (.inl rfl)) (ea_cons ev_int (ea_cons (ev_bin op_dSub (ev_var 1 rfl (.inl rfl)) ev_int) ea_nil)))))) (es_one es_never) es_nil))
theorem ok_scan_part (X : K.In h) (G : h.Ns mainGlobals mg) (c : He.SaysD fa fn K) : FnB P w K mg base 1 "scan_part" ["scan", "begin", "end"] (spD K T 3 g_scan_part) :=
  fnB (c.def_ 20 (d := d_scan_part) rfl) (He.glo_ok X G (c.fact 20 (f := .glo "scan_part") rfl)) (fun fd F => FunD.bindsN F fun _ _ _ _ _ _ us hl => match us, hl with | [_, _, _], _ => rfl) fun fd F =>
    fn_D F sc_scan_part fun cdv A outer s H E hr nr =>
    (es_cons (es_set (i := 3) sc_scan_part.nd rfl (.inl rfl) (ev_ifExp (ev_cmpT op_dLe rfl (ev_ix (ev_var 0 rfl (.inl rfl)) ev_int (fun _ _ => rfl)) (ev_ix (ev_var 0 rfl (.inl rfl)) ev_int (fun _ _ => rfl))) ev_int (ev_un un_dNeg ev_int)))
    (es_one (es_ret (ev_tup (ea_cons (ev_bin op_dAdd (ev_ix (ev_var 0 rfl (.inl rfl)) ev_int (fun _ _ => rfl)) (ev_bin op_dMul (ev_var 3 rfl (.inl rfl)) (ev_var 1 rfl (.inl rfl)))) (ea_cons (ev_bin op_dAdd (ev_ix (ev_var 0 rfl (.inl rfl)) ev_int (fun _ _ => rfl)) (ev_bin op_dMul (ev_var 3 rfl (.inl rfl)) (ev_bin op_dSub (ev_var 2 rfl (.inl rfl)) ev_int))) ea_nil))))))
theorem ok_nth_address (X : K.In h) (G : h.Ns mainGlobals mg) (c : He.SaysD fa fn K) : FnB P w K mg base 6 "nth_address" ["scans", "index"] (spD K T 2 g_nth_address) :=
  fnB (c.def_ 21 (d := d_nth_address) rfl) (He.glo_ok X G (c.fact 21 (f := .glo "nth_address") rfl)) (fun fd F => FunD.bindsN F fun _ _ _ _ _ _ us hl => match us, hl with | [_, _], _ => rfl) fun fd F =>
    fn_D F sc_nth_address fun cdv A outer s H E hr nr =>
    (es_cons (es_expr (ev_callB (ok_require_list X G c) hr (by decide) nr (by rfl) (ea_cons (ev_var 0 rfl (.inl rfl)) ea_nil)))
    (es_cons (es_expr (ev_callB (ok_require_index X G c) hr (by decide) nr (by rfl) (ea_cons (ev_var 1 rfl (.inl rfl)) (ea_cons (ev_callB (ok_total_of X G c) hr (by decide) nr (by rfl) (ea_cons (ev_var 0 rfl (.inl rfl)) ea_nil)) ea_nil))))
    (es_cons (es_set (i := 2) sc_nth_address.nd rfl (.inl rfl) (ev_var 1 rfl (.inl rfl)))
    (es_cons (es_for PassesOwn.never rfl (ei_seq (ev_var 0 rfl (.inl rfl))) (eg_name 3 sc_nth_address.nd rfl (.inl rfl)) (es_cons (es_if (ev_cmpT op_dLt rfl (ev_var 2 rfl (.inl rfl)) (ev_callB (ok_size_of X G c) hr (by decide) nr (by rfl) (ea_cons (ev_var 3 rfl (.inl rfl)) ea_nil))) (es_one (es_ret (ev_ix (ev_callB (ok_scan_part X G c) hr (by decide) nr (by rfl) (ea_cons (ev_var 3 rfl (.inl rfl)) (ea_cons (ev_var 2 rfl (.inl rfl)) (ea_cons (ev_bin op_dAdd (ev_var 2 rfl (.inl rfl)) ev_int) ea_nil)))) ev_int (fun _ _ => rfl)))) es_nil)
    (es_one (es_set (i := 2) sc_nth_address.nd rfl (.inl rfl) (ev_bin op_dSub (ev_var 2 rfl (.inl rfl)) (ev_callB (ok_size_of X G c) hr (by decide) nr (by rfl) (ea_cons (ev_var 3 rfl (.inl rfl)) ea_nil)))))))
    (es_one (es_ret ev_non))))))
theorem ok_require_number (X : K.In h) (G : h.Ns mainGlobals mg) (c : He.SaysD fa fn K) : FnB P w K mg base 3 "require_number" ["value", "low", "high"] (spD K T 3 g_require_number) :=
  fnB (c.def_ 22 (d := d_require_number) rfl) (He.glo_ok X G (c.fact 22 (f := .glo "require_number") rfl)) (fun fd F => FunD.bindsN F fun _ _ _ _ _ _ us hl => match us, hl with | [_, _, _], _ => rfl) fun fd F =>
    fn_D F sc_require_number fun cdv A outer s H E hr nr =>
    (es_one (es_if (evt_not (ev_val (ev_callB (ok_in_range X G c) hr (by decide) nr (by rfl) (ea_cons (ev_var 0 rfl (.inl rfl)) (ea_cons (ev_var 1 rfl (.inl rfl)) (ea_cons (ev_var 2 rfl (.inl rfl)) ea_nil)))))) (es_one es_never) es_nil))
theorem ok_beginning (X : K.In h) (G : h.Ns mainGlobals mg) (c : He.SaysD fa fn K) : FnB P w K mg base 2 "beginning" ["scans", "many"] (spL K T 2 g_beginning) :=
  fnB (c.def_ 23 (d := d_beginning) rfl) (He.glo_ok X G (c.fact 23 (f := .glo "beginning") rfl)) (fun fd F => FunD.bindsN F fun _ _ _ _ _ _ us hl => match us, hl with | [_, _], _ => rfl) fun fd F =>
    fn_L F sc_beginning fun cdv A outer s H E hr nr =>
    (es_cons (es_par (i := 2) (j := 3) rfl sc_beginning.nd rfl rfl (by decide) rfl rfl (ea_cons (ev_cell (evL_lst ea_nil)) (ea_cons (ev_var 1 rfl (.inl rfl)) ea_nil)) rfl)
    (es_cons (es_for PassesOwn.never rfl (ei_seq (ev_var 0 rfl (.inl rfl))) (eg_name 4 sc_beginning.nd rfl (.inl rfl)) (es_one (es_if (ev_cmpT op_dGt rfl (ev_var 3 rfl (.inl rfl)) ev_int) (es_cons (es_expr (ev_meth PySem.F.plainAttrs_list PySem.F.slot_list_append PySem.F.type_list_append mt_mAppend (ev_var 2 rfl (.inl rfl)) (ea_cons (ev_callB (ok_scan_part X G c) hr (by decide) nr (by rfl) (ea_cons (ev_var 4 rfl (.inl rfl)) (ea_cons ev_int (ea_cons (ev_cb (cb_min2 rfl) (by rfl) (fr_min X G c) boot_min (ea_cons (ev_var 3 rfl (.inl rfl)) (ea_cons (ev_callB (ok_size_of X G c) hr (by decide) nr (by rfl) (ea_cons (ev_var 4 rfl (.inl rfl)) ea_nil)) ea_nil))) ea_nil)))) ea_nil)))
    (es_one (es_set (i := 3) sc_beginning.nd rfl (.inl rfl) (ev_bin op_dSub (ev_var 3 rfl (.inl rfl)) (ev_callB (ok_size_of X G c) hr (by decide) nr (by rfl) (ea_cons (ev_var 4 rfl (.inl rfl)) ea_nil)))))) es_nil)))
    (es_one (es_ret (ev_var 2 rfl (.inl rfl))))))
theorem ok_first_part (X : K.In h) (G : h.Ns mainGlobals mg) (c : He.SaysD fa fn K) : FnB P w K mg base 6 "first_part" ["scans", "many"] (spL K T 2 g_first_part) :=
  fnB (c.def_ 24 (d := d_first_part) rfl) (He.glo_ok X G (c.fact 24 (f := .glo "first_part") rfl)) (fun fd F => FunD.bindsN F fun _ _ _ _ _ _ us hl => match us, hl with | [_, _], _ => rfl) fun fd F =>
    fn_L F sc_first_part fun cdv A outer s H E hr nr =>
    (es_cons (es_expr (ev_callB (ok_require_list X G c) hr (by decide) nr (by rfl) (ea_cons (ev_var 0 rfl (.inl rfl)) ea_nil)))
    (es_cons (es_expr (ev_callB (ok_require_number X G c) hr (by decide) nr (by rfl) (ea_cons (ev_var 1 rfl (.inl rfl)) (ea_cons ev_int (ea_cons ev_non ea_nil)))))
    (es_one (es_ret (ev_cell (evL_callB (ok_beginning X G c) hr (by decide) nr (by rfl) (ea_cons (ev_frz (evL_callB (ok_tidied X G c) hr (by decide) nr (by rfl) (ea_cons (ev_var 0 rfl (.inl rfl)) ea_nil))) (ea_cons (ev_var 1 rfl (.inl rfl)) ea_nil))))))))
theorem ok_require_scan (X : K.In h) (G : h.Ns mainGlobals mg) (c : He.SaysD fa fn K) : FnB P w K mg base 4 "require_scan" ["value"] (spD K T 1 g_require_scan) :=
  fnB (c.def_ 25 (d := d_require_scan) rfl) (He.glo_ok X G (c.fact 25 (f := .glo "require_scan") rfl)) (fun fd F => FunD.bindsN F fun _ _ _ _ _ _ us hl => match us, hl with | [_], _ => rfl) fun fd F =>
    fn_D F sc_require_scan fun cdv A outer s H E hr nr =>
    (es_one (es_if (evt_not (ev_val (ev_callB (ok_is_scan X G c) hr (by decide) nr (by rfl) (ea_cons (ev_var 0 rfl (.inl rfl)) ea_nil)))) (es_one es_never) es_nil))
theorem ok_common_of (X : K.In h) (G : h.Ns mainGlobals mg) (c : He.SaysD fa fn K) : FnB P w K mg base 1 "common_of" ["scan", "low", "high"] (spD K T 3 g_common_of) :=
  fnB (c.def_ 26 (d := d_common_of) rfl) (He.glo_ok X G (c.fact 26 (f := .glo "common_of") rfl)) (fun fd F => FunD.bindsN F fun _ _ _ _ _ _ us hl => match us, hl with | [_, _, _], _ => rfl) fun fd F =>
    fn_D F sc_common_of fun cdv A outer s H E hr nr =>
    (es_cons (es_par (i := 3) (j := 4) rfl sc_common_of.nd rfl rfl (by decide) rfl rfl (ea_cons (ev_cb (cb_max2 rfl) (by rfl) (fr_max X G c) boot_max (ea_cons (ev_var 1 rfl (.inl rfl)) (ea_cons (ev_cb (cb_minL rfl hr.units) (by rfl) (fr_min X G c) boot_min (ea_cons (ev_var 0 rfl (.inl rfl)) ea_nil)) ea_nil))) (ea_cons (ev_cb (cb_min2 rfl) (by rfl) (fr_min X G c) boot_min (ea_cons (ev_var 2 rfl (.inl rfl)) (ea_cons (ev_cb (cb_maxL rfl hr.units) (by rfl) (fr_max X G c) boot_max (ea_cons (ev_var 0 rfl (.inl rfl)) ea_nil)) ea_nil))) ea_nil)) rfl)
    (es_cons (es_if (ev_cmpT op_dGt rfl (ev_var 3 rfl (.inl rfl)) (ev_var 4 rfl (.inl rfl))) (es_one (es_ret ev_non)) es_nil)
    (es_one (es_ret (ev_ifExp (ev_cmpT op_dLe rfl (ev_ix (ev_var 0 rfl (.inl rfl)) ev_int (fun _ _ => rfl)) (ev_ix (ev_var 0 rfl (.inl rfl)) ev_int (fun _ _ => rfl))) (ev_tup (ea_cons (ev_var 3 rfl (.inl rfl)) (ea_cons (ev_var 4 rfl (.inl rfl)) ea_nil))) (ev_tup (ea_cons (ev_var 4 rfl (.inl rfl)) (ea_cons (ev_var 3 rfl (.inl rfl)) ea_nil))))))))
theorem ok_cut (X : K.In h) (G : h.Ns mainGlobals mg) (c : He.SaysD fa fn K) : FnB P w K mg base 2 "cut" ["scans", "low", "high"] (spL K T 3 g_cut) :=
  fnB (c.def_ 27 (d := d_cut) rfl) (He.glo_ok X G (c.fact 27 (f := .glo "cut") rfl)) (fun fd F => FunD.bindsN F fun _ _ _ _ _ _ us hl => match us, hl with | [_, _, _], _ => rfl) fun fd F =>
    fn_L F sc_cut fun cdv A outer s H E hr nr =>
    (es_cons (es_set (i := 3) sc_cut.nd rfl (.inl rfl) (ev_cell (evL_lst ea_nil)))
    (es_cons (es_for PassesOwn.never rfl (ei_seq (ev_var 0 rfl (.inl rfl))) (eg_name 4 sc_cut.nd rfl (.inl rfl)) (es_cons (es_set (i := 5) sc_cut.nd rfl (.inl rfl) (ev_frz (evL_lst (ea_cons (ev_tup (ea_cons ev_int (ea_cons (ev_bin op_dSub (ev_var 1 rfl (.inl rfl)) ev_int) ea_nil))) (ea_cons (ev_tup (ea_cons (ev_bin op_dAdd (ev_var 2 rfl (.inl rfl)) ev_int) (ea_cons (ev_cb (cb_maxL rfl hr.units) (by rfl) (fr_max X G c) boot_max (ea_cons (ev_var 4 rfl (.inl rfl)) ea_nil)) ea_nil))) ea_nil)))))
    (es_cons (es_if (ev_cmpT op_dGt rfl (ev_ix (ev_var 4 rfl (.inl rfl)) ev_int (fun _ _ => rfl)) (ev_ix (ev_var 4 rfl (.inl rfl)) ev_int (fun _ _ => rfl))) (es_one (es_set (i := 5) sc_cut.nd rfl (.inl rfl) (ev_frz (evL_rev (ev_var 5 rfl (.inl rfl)))))) es_nil)
    (es_one (es_for PassesOwn.never rfl (ei_seq (ev_var 5 rfl (.inl rfl))) (eg_tup rfl (egs_cons (eg_name 6 sc_cut.nd rfl (.inl rfl)) (egs_cons (eg_name 7 sc_cut.nd rfl (.inl rfl)) egs_nil))) (es_cons (es_set (i := 8) sc_cut.nd rfl (.inl rfl) (ev_callB (ok_common_of X G c) hr (by decide) nr (by rfl) (ea_cons (ev_var 4 rfl (.inl rfl)) (ea_cons (ev_var 6 rfl (.inl rfl)) (ea_cons (ev_var 7 rfl (.inl rfl)) ea_nil)))))
    (es_one (es_if (ev_cmpT op_dIsNot rfl (ev_var 8 rfl (.inl rfl)) ev_non) (es_one (es_expr (ev_meth PySem.F.plainAttrs_list PySem.F.slot_list_append PySem.F.type_list_append mt_mAppend (ev_var 3 rfl (.inl rfl)) (ea_cons (ev_var 8 rfl (.inl rfl)) ea_nil)))) es_nil))))))))
    (es_one (es_ret (ev_var 3 rfl (.inl rfl))))))
theorem ok_put_on_top (X : K.In h) (G : h.Ns mainGlobals mg) (c : He.SaysD fa fn K) : FnB P w K mg base 3 "put_on_top" ["scans", "scan"] (spL K T 2 g_put_on_top) :=
  fnB (c.def_ 28 (d := d_put_on_top) rfl) (He.glo_ok X G (c.fact 28 (f := .glo "put_on_top") rfl)) (fun fd F => FunD.bindsN F fun _ _ _ _ _ _ us hl => match us, hl with | [_, _], _ => rfl) fun fd F =>
    fn_L F sc_put_on_top fun cdv A outer s H E hr nr =>
    (es_one (es_ret (ev_cell (evL_callB (ok_tidied X G c) hr (by decide) nr (by rfl) (ea_cons (ev_bin op_dAdd (ev_frz (evL_lst (ea_cons (ev_var 1 rfl (.inl rfl)) ea_nil))) (ev_frz (evL_callB (ok_cut X G c) hr (by decide) nr (by rfl) (ea_cons (ev_var 0 rfl (.inl rfl)) (ea_cons (ev_cb (cb_minL rfl hr.units) (by rfl) (fr_min X G c) boot_min (ea_cons (ev_var 1 rfl (.inl rfl)) ea_nil)) (ea_cons (ev_cb (cb_maxL rfl hr.units) (by rfl) (fr_max X G c) boot_max (ea_cons (ev_var 1 rfl (.inl rfl)) ea_nil)) ea_nil)))))) ea_nil)))))
theorem ok_on_top (X : K.In h) (G : h.Ns mainGlobals mg) (c : He.SaysD fa fn K) : FnB P w K mg base 6 "on_top" ["scans", "scan"] (spL K T 2 g_on_top) :=
  fnB (c.def_ 29 (d := d_on_top) rfl) (He.glo_ok X G (c.fact 29 (f := .glo "on_top") rfl)) (fun fd F => FunD.bindsN F fun _ _ _ _ _ _ us hl => match us, hl with | [_, _], _ => rfl) fun fd F =>
    fn_L F sc_on_top fun cdv A outer s H E hr nr =>
    (es_cons (es_expr (ev_callB (ok_require_list X G c) hr (by decide) nr (by rfl) (ea_cons (ev_var 0 rfl (.inl rfl)) ea_nil)))
    (es_cons (es_expr (ev_callB (ok_require_scan X G c) hr (by decide) nr (by rfl) (ea_cons (ev_var 1 rfl (.inl rfl)) ea_nil)))
    (es_one (es_ret (ev_cell (evL_callB (ok_put_on_top X G c) hr (by decide) nr (by rfl) (ea_cons (ev_var 0 rfl (.inl rfl)) (ea_cons (ev_var 1 rfl (.inl rfl)) ea_nil))))))))
theorem ok_require_interval (X : K.In h) (G : h.Ns mainGlobals mg) (c : He.SaysD fa fn K) : FnB P w K mg base 3 "require_interval" ["low", "high"] (spD K T 2 g_require_interval) :=
  fnB (c.def_ 30 (d := d_require_interval) rfl) (He.glo_ok X G (c.fact 30 (f := .glo "require_interval") rfl)) (fun fd F => FunD.bindsN F fun _ _ _ _ _ _ us hl => match us, hl with | [_, _], _ => rfl) fun fd F =>
    fn_D F sc_require_interval fun cdv A outer s H E hr nr =>
    (es_one (es_if (evt_of (evw_or (evt_not (ev_val (ev_callB (ok_in_range X G c) hr (by decide) nr (by rfl) (ea_cons (ev_var 0 rfl (.inl rfl)) (ea_cons ev_int (ea_cons ev_non ea_nil)))))) (evw_or1 (evt_not (ev_val (ev_callB (ok_in_range X G c) hr (by decide) nr (by rfl) (ea_cons (ev_var 1 rfl (.inl rfl)) (ea_cons (ev_var 0 rfl (.inl rfl)) (ea_cons ev_non ea_nil))))))))) (es_one es_never) es_nil))
theorem ok_without (X : K.In h) (G : h.Ns mainGlobals mg) (c : He.SaysD fa fn K) : FnB P w K mg base 6 "without" ["scans", "low", "high"] (spL K T 3 g_without) :=
  fnB (c.def_ 31 (d := d_without) rfl) (He.glo_ok X G (c.fact 31 (f := .glo "without") rfl)) (fun fd F => FunD.bindsN F fun _ _ _ _ _ _ us hl => match us, hl with | [_, _, _], _ => rfl) fun fd F =>
    fn_L F sc_without fun cdv A outer s H E hr nr =>
    (es_cons (es_expr (ev_callB (ok_require_list X G c) hr (by decide) nr (by rfl) (ea_cons (ev_var 0 rfl (.inl rfl)) ea_nil)))
    (es_cons (es_expr (ev_callB (ok_require_interval X G c) hr (by decide) nr (by rfl) (ea_cons (ev_var 1 rfl (.inl rfl)) (ea_cons (ev_var 2 rfl (.inl rfl)) ea_nil))))
    (es_one (es_ret (ev_cell (evL_callB (ok_tidied X G c) hr (by decide) nr (by rfl) (ea_cons (ev_frz (evL_callB (ok_cut X G c) hr (by decide) nr (by rfl) (ea_cons (ev_var 0 rfl (.inl rfl)) (ea_cons (ev_var 1 rfl (.inl rfl)) (ea_cons (ev_var 2 rfl (.inl rfl)) ea_nil))))) ea_nil)))))))
theorem ok__law_joined (X : K.In h) (G : h.Ns mainGlobals mg) (c : He.SaysD fa fn K) : FnB P w K mg base 1 "_law_joined" ["scans"] (spD K T 1 g__law_joined) :=
  fnB (c.def_ 32 (d := d__law_joined) rfl) (He.glo_ok X G (c.fact 32 (f := .glo "_law_joined") rfl)) (fun fd F => FunD.bindsN F fun _ _ _ _ _ _ us hl => match us, hl with | [_], _ => rfl) fun fd F =>
    fn_D F sc__law_joined fun cdv A outer s H E hr nr =>
    (es_cons (es_set (i := 1) sc__law_joined.nd rfl (.inl rfl) (ev_cell (evL_lst ea_nil)))
    (es_cons (es_for PassesOwn.never rfl (ei_seq (ev_var 0 rfl (.inl rfl))) (eg_tup rfl (egs_cons (eg_name 2 sc__law_joined.nd rfl (.inl rfl)) (egs_cons (eg_name 3 sc__law_joined.nd rfl (.inl rfl)) egs_nil))) (es_one (es_if (evt_of (evw_and (ev_cmpT (op_dNe hr.units) rfl (ev_var 1 rfl (.inl rfl)) (ev_frz (evL_lst ea_nil))) (evw_and1 (ev_cmpT (op_dEq hr.units) rfl (ev_cb cb_abs (by rfl) (fr_abs X G c) boot_abs (ea_cons (ev_bin op_dSub (ev_ix (ev_ix (ev_var 1 rfl (.inl rfl)) (ev_un un_dNeg ev_int) (fun _ _ => rfl)) ev_int (fun _ _ => rfl)) (ev_var 2 rfl (.inl rfl))) ea_nil)) ev_int)))) (es_one (es_store (ev_tup (ea_cons (ev_ix (ev_ix (ev_var 1 rfl (.inl rfl)) (ev_un un_dNeg ev_int) (fun _ _ => rfl)) ev_int (fun _ _ => rfl)) (ea_cons (ev_var 3 rfl (.inl rfl)) ea_nil))) (ev_var 1 rfl (.inl rfl)) (ev_un un_dNeg ev_int))) (es_one (es_expr (ev_meth PySem.F.plainAttrs_list PySem.F.slot_list_append PySem.F.type_list_append mt_mAppend (ev_var 1 rfl (.inl rfl)) (ea_cons (ev_tup (ea_cons (ev_var 2 rfl (.inl rfl)) (ea_cons (ev_var 3 rfl (.inl rfl)) ea_nil))) ea_nil)))))))
    (es_one (es_ret (ev_var 1 rfl (.inl rfl))))))
theorem ok__law_size (X : K.In h) (G : h.Ns mainGlobals mg) (c : He.SaysD fa fn K) : FnB P w K mg base 1 "_law_size" ["scan"] (spD K T 1 g__law_size) :=
  fnB (c.def_ 33 (d := d__law_size) rfl) (He.glo_ok X G (c.fact 33 (f := .glo "_law_size") rfl)) (fun fd F => FunD.bindsN F fun _ _ _ _ _ _ us hl => match us, hl with | [_], _ => rfl) fun fd F =>
    fn_D F sc__law_size fun cdv A outer s H E hr nr =>
    (es_one (es_ret (ev_bin op_dAdd (ev_cb cb_abs (by rfl) (fr_abs X G c) boot_abs (ea_cons (ev_bin op_dSub (ev_ix (ev_var 0 rfl (.inl rfl)) ev_int (fun _ _ => rfl)) (ev_ix (ev_var 0 rfl (.inl rfl)) ev_int (fun _ _ => rfl))) ea_nil)) ev_int)))
theorem ok__law_within (X : K.In h) (G : h.Ns mainGlobals mg) (c : He.SaysD fa fn K) : FnB P w K mg base 1 "_law_within" ["scan", "low", "high"] (spD K T 3 g__law_within) :=
  fnB (c.def_ 34 (d := d__law_within) rfl) (He.glo_ok X G (c.fact 34 (f := .glo "_law_within") rfl)) (fun fd F => FunD.bindsN F fun _ _ _ _ _ _ us hl => match us, hl with | [_, _, _], _ => rfl) fun fd F =>
    fn_D F sc__law_within fun cdv A outer s H E hr nr =>
    (es_cons (es_par (i := 3) (j := 4) rfl sc__law_within.nd rfl rfl (by decide) rfl rfl (ea_cons (ev_cb (cb_max2 rfl) (by rfl) (fr_max X G c) boot_max (ea_cons (ev_var 1 rfl (.inl rfl)) (ea_cons (ev_cb (cb_minL rfl hr.units) (by rfl) (fr_min X G c) boot_min (ea_cons (ev_var 0 rfl (.inl rfl)) ea_nil)) ea_nil))) (ea_cons (ev_cb (cb_min2 rfl) (by rfl) (fr_min X G c) boot_min (ea_cons (ev_var 2 rfl (.inl rfl)) (ea_cons (ev_cb (cb_maxL rfl hr.units) (by rfl) (fr_max X G c) boot_max (ea_cons (ev_var 0 rfl (.inl rfl)) ea_nil)) ea_nil))) ea_nil)) rfl)
    (es_cons (es_if (ev_cmpT op_dGt rfl (ev_var 3 rfl (.inl rfl)) (ev_var 4 rfl (.inl rfl))) (es_one (es_ret (ev_frz (evL_lst ea_nil)))) es_nil)
    (es_one (es_ret (ev_frz (evL_lst (ea_cons (ev_ifExp (ev_cmpT op_dLe rfl (ev_ix (ev_var 0 rfl (.inl rfl)) ev_int (fun _ _ => rfl)) (ev_ix (ev_var 0 rfl (.inl rfl)) ev_int (fun _ _ => rfl))) (ev_tup (ea_cons (ev_var 3 rfl (.inl rfl)) (ea_cons (ev_var 4 rfl (.inl rfl)) ea_nil))) (ev_tup (ea_cons (ev_var 4 rfl (.inl rfl)) (ea_cons (ev_var 3 rfl (.inl rfl)) ea_nil)))) ea_nil)))))))
theorem ok__law_cut (X : K.In h) (G : h.Ns mainGlobals mg) (c : He.SaysD fa fn K) : FnB P w K mg base 2 "_law_cut" ["scans", "low", "high"] (spD K T 3 g__law_cut) :=
  fnB (c.def_ 35 (d := d__law_cut) rfl) (He.glo_ok X G (c.fact 35 (f := .glo "_law_cut") rfl)) (fun fd F => FunD.bindsN F fun _ _ _ _ _ _ us hl => match us, hl with | [_, _, _], _ => rfl) fun fd F =>
    fn_D F sc__law_cut fun cdv A outer s H E hr nr =>
    (es_cons (es_set (i := 3) sc__law_cut.nd rfl (.inl rfl) (ev_frz (evL_lst ea_nil)))
    (es_cons (es_for PassesOwn.never rfl (ei_seq (ev_var 0 rfl (.inl rfl))) (eg_name 4 sc__law_cut.nd rfl (.inl rfl)) (es_cons (es_set (i := 5) sc__law_cut.nd rfl (.inl rfl) (ev_frz (evL_lst (ea_cons (ev_callB (ok__law_within X G c) hr (by decide) nr (by rfl) (ea_cons (ev_var 4 rfl (.inl rfl)) (ea_cons ev_int (ea_cons (ev_bin op_dSub (ev_var 1 rfl (.inl rfl)) ev_int) ea_nil)))) (ea_cons (ev_callB (ok__law_within X G c) hr (by decide) nr (by rfl) (ea_cons (ev_var 4 rfl (.inl rfl)) (ea_cons (ev_bin op_dAdd (ev_var 2 rfl (.inl rfl)) ev_int) (ea_cons (ev_cb (cb_maxL rfl hr.units) (by rfl) (fr_max X G c) boot_max (ea_cons (ev_var 4 rfl (.inl rfl)) ea_nil)) ea_nil)))) ea_nil)))))
    (es_one (es_set (i := 3) sc__law_cut.nd rfl (.inl rfl) (ev_bin op_dAdd (ev_var 3 rfl (.inl rfl)) (ev_ifExp (ev_cmpT op_dLe rfl (ev_ix (ev_var 4 rfl (.inl rfl)) ev_int (fun _ _ => rfl)) (ev_ix (ev_var 4 rfl (.inl rfl)) ev_int (fun _ _ => rfl))) (ev_bin op_dAdd (ev_ix (ev_var 5 rfl (.inl rfl)) ev_int (fun _ _ => rfl)) (ev_ix (ev_var 5 rfl (.inl rfl)) ev_int (fun _ _ => rfl))) (ev_bin op_dAdd (ev_ix (ev_var 5 rfl (.inl rfl)) ev_int (fun _ _ => rfl)) (ev_ix (ev_var 5 rfl (.inl rfl)) ev_int (fun _ _ => rfl)))))))))
    (es_one (es_ret (ev_var 3 rfl (.inl rfl))))))
theorem ok__law_first (X : K.In h) (G : h.Ns mainGlobals mg) (c : He.SaysD fa fn K) : FnB P w K mg base 2 "_law_first" ["scans", "many"] (spD K T 2 g__law_first) :=
  fnB (c.def_ 36 (d := d__law_first) rfl) (He.glo_ok X G (c.fact 36 (f := .glo "_law_first") rfl)) (fun fd F => FunD.bindsN F fun _ _ _ _ _ _ us hl => match us, hl with | [_, _], _ => rfl) fun fd F =>
    fn_D F sc__law_first fun cdv A outer s H E hr nr =>
    (es_cons (es_par (i := 2) (j := 3) rfl sc__law_first.nd rfl rfl (by decide) rfl rfl (ea_cons (ev_cell (evL_lst ea_nil)) (ea_cons (ev_var 1 rfl (.inl rfl)) ea_nil)) rfl)
    (es_cons (es_for PassesOwn.never rfl (ei_seq (ev_var 0 rfl (.inl rfl))) (eg_name 4 sc__law_first.nd rfl (.inl rfl)) (es_one (es_if (ev_cmpT op_dGt rfl (ev_var 3 rfl (.inl rfl)) ev_int) (es_cons (es_set (i := 5) sc__law_first.nd rfl (.inl rfl) (ev_cb (cb_min2 rfl) (by rfl) (fr_min X G c) boot_min (ea_cons (ev_var 3 rfl (.inl rfl)) (ea_cons (ev_callB (ok__law_size X G c) hr (by decide) nr (by rfl) (ea_cons (ev_var 4 rfl (.inl rfl)) ea_nil)) ea_nil))))
    (es_cons (es_set (i := 6) sc__law_first.nd rfl (.inl rfl) (ev_ifExp (ev_cmpT op_dLe rfl (ev_ix (ev_var 4 rfl (.inl rfl)) ev_int (fun _ _ => rfl)) (ev_ix (ev_var 4 rfl (.inl rfl)) ev_int (fun _ _ => rfl))) ev_int (ev_un un_dNeg ev_int)))
    (es_cons (es_expr (ev_meth PySem.F.plainAttrs_list PySem.F.slot_list_append PySem.F.type_list_append mt_mAppend (ev_var 2 rfl (.inl rfl)) (ea_cons (ev_tup (ea_cons (ev_ix (ev_var 4 rfl (.inl rfl)) ev_int (fun _ _ => rfl)) (ea_cons (ev_bin op_dAdd (ev_ix (ev_var 4 rfl (.inl rfl)) ev_int (fun _ _ => rfl)) (ev_bin op_dMul (ev_var 6 rfl (.inl rfl)) (ev_bin op_dSub (ev_var 5 rfl (.inl rfl)) ev_int))) ea_nil))) ea_nil)))
    (es_one (es_set (i := 3) sc__law_first.nd rfl (.inl rfl) (ev_bin op_dSub (ev_var 3 rfl (.inl rfl)) (ev_var 5 rfl (.inl rfl)))))))) es_nil)))
    (es_one (es_ret (ev_var 2 rfl (.inl rfl))))))
theorem ok__law_marks (X : K.In h) (G : h.Ns mainGlobals mg) (c : He.SaysD fa fn K) : FnB P w K mg base 2 "_law_marks" ["bag", "scans"] (spD K T 2 g__law_marks) :=
  fnB (c.def_ 37 (d := d__law_marks) rfl) (He.glo_ok X G (c.fact 37 (f := .glo "_law_marks") rfl)) (fun fd F => FunD.bindsN F fun _ _ _ _ _ _ us hl => match us, hl with | [_, _], _ => rfl) fun fd F =>
    fn_D F sc__law_marks fun cdv A outer s H E hr nr =>
    (es_cons (es_set (i := 2) sc__law_marks.nd rfl (.inl rfl) (ev_cell (evL_lst (ea_cons ev_int (ea_cons (ev_bin op_dMul (ev_bin op_dPow ev_int ev_int) (ev_bin op_dPow ev_int ev_int)) ea_nil)))))
    (es_cons (es_for PassesOwn.never rfl (ei_range1 (by rfl) (fr_range X G c) (ea_cons (ev_bin op_dMul ev_int (ev_ct ct_int (by rfl) (fr_int X G c) boot_int (ea_cons (ev_cmp (op_dNe hr.units) rfl (ev_var 1 rfl (.inl rfl)) (ev_frz (evL_lst ea_nil))) ea_nil))) ea_nil)) (eg_name 3 sc__law_marks.nd rfl (.inl rfl)) (es_cons (es_set (i := 4) sc__law_marks.nd rfl (.inl rfl) (ev_ix (ev_var 1 rfl (.inl rfl)) (ev_callB (ok__law_pick X G c) hr (by decide) nr (by rfl) (ea_cons (ev_var 0 rfl (.inl rfl)) (ea_cons (ev_cb cb_len (by rfl) (fr_len X G c) boot_len (ea_cons (ev_var 1 rfl (.inl rfl)) ea_nil)) ea_nil))) (fun _ _ => rfl)))
    (es_cons (es_set (i := 2) sc__law_marks.nd rfl (.inl rfl) (ev_cell (evL_bin op_catL (ev_var 2 rfl (.inl rfl)) (ev_frz (evL_lst (ea_cons (ev_ix (ev_var 4 rfl (.inl rfl)) ev_int (fun _ _ => rfl)) (ea_cons (ev_ix (ev_var 4 rfl (.inl rfl)) ev_int (fun _ _ => rfl)) (ea_cons (ev_cb (cb_max2 rfl) (by rfl) (fr_max X G c) boot_max (ea_cons ev_int (ea_cons (ev_bin op_dSub (ev_cb (cb_minL rfl hr.units) (by rfl) (fr_min X G c) boot_min (ea_cons (ev_var 4 rfl (.inl rfl)) ea_nil)) ev_int) ea_nil))) (ea_cons (ev_bin op_dAdd (ev_cb (cb_maxL rfl hr.units) (by rfl) (fr_max X G c) boot_max (ea_cons (ev_var 4 rfl (.inl rfl)) ea_nil)) ev_int) ea_nil)))))))))
    (es_one (es_expr (ev_meth PySem.F.plainAttrs_list PySem.F.slot_list_append PySem.F.type_list_append mt_mAppend (ev_var 2 rfl (.inl rfl)) (ea_cons (ev_bin op_dAdd (ev_cb (cb_minL rfl hr.units) (by rfl) (fr_min X G c) boot_min (ea_cons (ev_var 4 rfl (.inl rfl)) ea_nil)) (ev_callB (ok__law_pick X G c) hr (by decide) nr (by rfl) (ea_cons (ev_var 0 rfl (.inl rfl)) (ea_cons (ev_callB (ok__law_size X G c) hr (by decide) nr (by rfl) (ea_cons (ev_var 4 rfl (.inl rfl)) ea_nil)) ea_nil)))) ea_nil)))))))
    (es_one (es_ret (ev_var 2 rfl (.inl rfl))))))
theorem ok__law_right (X : K.In h) (G : h.Ns mainGlobals mg) (c : He.SaysD fa fn K) : FnB P w K mg base 7 "_law_right" ["bag", "scans"] (spD K T 2 g__law_right) :=
  fnB (c.def_ 38 (d := d__law_right) rfl) (He.glo_ok X G (c.fact 38 (f := .glo "_law_right") rfl)) (fun fd F => FunD.bindsN F fun _ _ _ _ _ _ us hl => match us, hl with | [_, _], _ => rfl) fun fd F =>
    fn_D F sc__law_right fun cdv A outer s H E hr nr =>
    (es_cons (es_setLc (i := 2) (own := [("scan", 7)]) rfl sc__law_right.nd rfl rfl (sw_true rfl rfl rfl (by decide +kernel)) (ei_seq (ev_var 1 rfl (.inl rfl))) (blkOk_by (N := N__law_right) (sc := (defScope s__law_right)) (own := [("scan", 7)]) (by decide +kernel)) (fun _ _ _ _ _ => (eg_name 7 sc__law_right.nd rfl (.inl rfl))) (fun _ _ _ _ _ => ets_nil) (fun _ _ _ _ _ => (ev_callB (ok__law_size X G c) hr (by decide) nr (by rfl) (ea_cons (ev_var 7 rfl (.inl rfl)) ea_nil))))
    (es_cons (es_if (ev_cmpT (op_dNe hr.units) rfl (ev_frz (evL_lst (ea_cons (ev_frz (evL_callB (ok_tidy X G c) hr (by decide) nr (by rfl) (ea_cons (ev_var 1 rfl (.inl rfl)) ea_nil))) (ea_cons (ev_callB (ok_count_addresses X G c) hr (by decide) nr (by rfl) (ea_cons (ev_var 1 rfl (.inl rfl)) ea_nil)) ea_nil)))) (ev_frz (evL_lst (ea_cons (ev_callB (ok__law_joined X G c) hr (by decide) nr (by rfl) (ea_cons (ev_var 1 rfl (.inl rfl)) ea_nil)) (ea_cons (ev_cb (cb_sum rfl) (by rfl) (fr_sum X G c) boot_sum (ea_cons (ev_var 2 rfl (.inl rfl)) ea_nil)) ea_nil))))) (es_one (es_ret ev_bl)) es_nil)
    (es_cons (es_if (ev_cmpT (op_dNe hr.units) rfl (ev_frz (evL_callB (ok_turned X G c) hr (by decide) nr (by rfl) (ea_cons (ev_var 1 rfl (.inl rfl)) ea_nil))) (ev_callB (ok__law_joined X G c) hr (by decide) nr (by rfl) (ea_cons (ev_frz (evL_lc (own := [("first", 13), ("last", 14)]) rfl sc__law_right.nd (ei_seq (ev_frz (evL_rev (ev_var 1 rfl (.inl rfl))))) (blkOk_by (N := N__law_right) (sc := (defScope s__law_right)) (own := [("first", 13), ("last", 14)]) (by decide +kernel)) (fun _ _ _ _ _ => (eg_tup rfl (egs_cons (eg_name 13 sc__law_right.nd rfl (.inl rfl)) (egs_cons (eg_name 14 sc__law_right.nd rfl (.inl rfl)) egs_nil)))) (fun _ _ _ _ _ => ets_nil) (fun _ _ _ _ _ => (ev_tup (ea_cons (ev_var 14 rfl (.inl rfl)) (ea_cons (ev_var 13 rfl (.inl rfl)) ea_nil)))))) ea_nil))) (es_one (es_ret ev_bl)) es_nil)
    (es_cons (es_set (i := 3) sc__law_right.nd rfl (.inl rfl) (ev_callB (ok__law_marks X G c) hr (by decide) nr (by rfl) (ea_cons (ev_var 0 rfl (.inl rfl)) (ea_cons (ev_var 1 rfl (.inl rfl)) ea_nil))))
    (es_cons (es_for PassesOwn.never rfl (ei_seq (ev_var 3 rfl (.inl rfl))) (eg_name 4 sc__law_right.nd rfl (.inl rfl)) (es_cons (es_set (i := 5) sc__law_right.nd rfl (.inl rfl) ev_non)
    (es_cons (es_for PassesOwn.never rfl (ei_enum (by rfl) (fr_enumerate X G c) (ea_cons (ev_var 1 rfl (.inl rfl)) ea_nil)) (eg_tup rfl (egs_cons (eg_name 6 sc__law_right.nd rfl (.inl rfl)) (egs_cons (eg_name 7 sc__law_right.nd rfl (.inl rfl)) egs_nil))) (es_one (es_if (evt_chain op_dLe op_dLe (ev_cb (cb_minL rfl hr.units) (by rfl) (fr_min X G c) boot_min (ea_cons (ev_var 7 rfl (.inl rfl)) ea_nil)) (ev_var 4 rfl (.inl rfl)) (ev_cb (cb_maxL rfl hr.units) (by rfl) (fr_max X G c) boot_max (ea_cons (ev_var 7 rfl (.inl rfl)) ea_nil))) (es_one (es_set (i := 5) sc__law_right.nd rfl (.inl rfl) (ev_bin op_dAdd (ev_cb (cb_sum rfl) (by rfl) (fr_sum X G c) boot_sum (ea_cons (ev_slice (ev_var 2 rfl (.inl rfl)) eo_none (eo_some (ev_var 6 rfl (.inl rfl)))) ea_nil)) (ev_cb cb_abs (by rfl) (fr_abs X G c) boot_abs (ea_cons (ev_bin op_dSub (ev_var 4 rfl (.inl rfl)) (ev_ix (ev_var 7 rfl (.inl rfl)) ev_int (fun _ _ => rfl))) ea_nil))))) es_nil)))
    (es_cons (es_if (evt_of (evw_or (ev_cmpT (op_dNe hr.units) rfl (ev_callB (ok_place_of X G c) hr (by decide) nr (by rfl) (ea_cons (ev_var 1 rfl (.inl rfl)) (ea_cons (ev_var 4 rfl (.inl rfl)) ea_nil))) (ev_var 5 rfl (.inl rfl))) (evw_or1 (evt_of (evw_and (ev_cmpT op_dIsNot rfl (ev_var 5 rfl (.inl rfl)) ev_non) (evw_and1 (ev_cmpT (op_dNe hr.units) rfl (ev_callB (ok_nth_address X G c) hr (by decide) nr (by rfl) (ea_cons (ev_var 1 rfl (.inl rfl)) (ea_cons (ev_var 5 rfl (.inl rfl)) ea_nil))) (ev_var 4 rfl (.inl rfl))))))))) (es_one (es_ret ev_bl)) es_nil)
    (es_one (es_if (evt_of (evw_and (ev_cmpT op_dIsNot rfl (ev_var 5 rfl (.inl rfl)) ev_non) (evw_and1 (ev_cmpT (op_dNe hr.units) rfl (ev_frz (evL_callB (ok_first_part X G c) hr (by decide) nr (by rfl) (ea_cons (ev_var 1 rfl (.inl rfl)) (ea_cons (ev_bin op_dAdd (ev_var 5 rfl (.inl rfl)) ev_int) ea_nil)))) (ev_callB (ok__law_joined X G c) hr (by decide) nr (by rfl) (ea_cons (ev_callB (ok__law_first X G c) hr (by decide) nr (by rfl) (ea_cons (ev_var 1 rfl (.inl rfl)) (ea_cons (ev_bin op_dAdd (ev_var 5 rfl (.inl rfl)) ev_int) ea_nil))) ea_nil)))))) (es_one (es_ret ev_bl)) es_nil))))))
    (es_cons (es_for PassesOwn.never rfl (ei_range1 (by rfl) (fr_range X G c) (ea_cons ev_int ea_nil)) (eg_name 8 sc__law_right.nd rfl (.inl rfl)) (es_cons (es_par (i := 9) (j := 10) rfl sc__law_right.nd rfl rfl (by decide) rfl rfl (ea_cons (ev_ix (ev_var 3 rfl (.inl rfl)) (ev_callB (ok__law_pick X G c) hr (by decide) nr (by rfl) (ea_cons (ev_var 0 rfl (.inl rfl)) (ea_cons (ev_cb cb_len (by rfl) (fr_len X G c) boot_len (ea_cons (ev_var 3 rfl (.inl rfl)) ea_nil)) ea_nil))) (fun _ _ => rfl)) (ea_cons (ev_ix (ev_var 3 rfl (.inl rfl)) (ev_callB (ok__law_pick X G c) hr (by decide) nr (by rfl) (ea_cons (ev_var 0 rfl (.inl rfl)) (ea_cons (ev_cb cb_len (by rfl) (fr_len X G c) boot_len (ea_cons (ev_var 3 rfl (.inl rfl)) ea_nil)) ea_nil))) (fun _ _ => rfl)) ea_nil)) rfl)
    (es_cons (es_par (i := 11) (j := 12) rfl sc__law_right.nd rfl rfl (by decide) rfl rfl (ea_cons (ev_cb (cb_min2 rfl) (by rfl) (fr_min X G c) boot_min (ea_cons (ev_var 9 rfl (.inl rfl)) (ea_cons (ev_var 10 rfl (.inl rfl)) ea_nil))) (ea_cons (ev_cb (cb_max2 rfl) (by rfl) (fr_max X G c) boot_max (ea_cons (ev_var 9 rfl (.inl rfl)) (ea_cons (ev_var 10 rfl (.inl rfl)) ea_nil))) ea_nil)) rfl)
    (es_cons (es_if (ev_cmpT (op_dNe hr.units) rfl (ev_frz (evL_callB (ok_on_top X G c) hr (by decide) nr (by rfl) (ea_cons (ev_var 1 rfl (.inl rfl)) (ea_cons (ev_tup (ea_cons (ev_var 9 rfl (.inl rfl)) (ea_cons (ev_var 10 rfl (.inl rfl)) ea_nil))) ea_nil)))) (ev_callB (ok__law_joined X G c) hr (by decide) nr (by rfl) (ea_cons (ev_bin op_dAdd (ev_frz (evL_lst (ea_cons (ev_tup (ea_cons (ev_var 9 rfl (.inl rfl)) (ea_cons (ev_var 10 rfl (.inl rfl)) ea_nil))) ea_nil))) (ev_callB (ok__law_cut X G c) hr (by decide) nr (by rfl) (ea_cons (ev_var 1 rfl (.inl rfl)) (ea_cons (ev_var 11 rfl (.inl rfl)) (ea_cons (ev_var 12 rfl (.inl rfl)) ea_nil))))) ea_nil))) (es_one (es_ret ev_bl)) es_nil)
    (es_one (es_if (ev_cmpT (op_dNe hr.units) rfl (ev_frz (evL_callB (ok_without X G c) hr (by decide) nr (by rfl) (ea_cons (ev_var 1 rfl (.inl rfl)) (ea_cons (ev_var 11 rfl (.inl rfl)) (ea_cons (ev_var 12 rfl (.inl rfl)) ea_nil))))) (ev_callB (ok__law_joined X G c) hr (by decide) nr (by rfl) (ea_cons (ev_callB (ok__law_cut X G c) hr (by decide) nr (by rfl) (ea_cons (ev_var 1 rfl (.inl rfl)) (ea_cons (ev_var 11 rfl (.inl rfl)) (ea_cons (ev_var 12 rfl (.inl rfl)) ea_nil)))) ea_nil))) (es_one (es_ret ev_bl)) es_nil))))))
    (es_one (es_ret ev_bl))))))))
theorem fnG_law (X : K.In h) (G : h.Ns mainGlobals mg) (c : He.SaysD fa fn K) (fd : FuncData) (F : FunD K "law" "law" (defArgs s_law) (defBody s_law) (defScope s_law) [] [] (He.ga K "law") fd) : FnG P w K mg base 8 (He.ga K "law") fd ["script"] (spD K T 1 g_law) :=
    fn_D F sc_law fun cdv A outer s H E hr nr =>
    (es_cons (es_for PassesOwn.never rfl (ei_enum (by rfl) (fr_enumerate X G c) (ea_cons (ev_bin op_dAdd (ev_slice (ev_var 0 rfl (.inl rfl)) eo_none (eo_some ev_int)) (ev_frz (evL_lst (ea_cons ev_int ea_nil)))) ea_nil)) (eg_tup rfl (egs_cons (eg_name 1 sc_law.nd rfl (.inl rfl)) (egs_cons (eg_name 2 sc_law.nd rfl (.inl rfl)) egs_nil))) (es_cons (es_set (i := 3) sc_law.nd rfl (.inl rfl) (ev_cell (evL_callB (ok__law_bag X G c) hr (by decide) nr (by rfl) (ea_cons (ev_var 2 rfl (.inl rfl)) ea_nil))))
    (es_one (es_for PassesOwn.never rfl (ei_range1 (by rfl) (fr_range X G c) (ea_cons ev_int ea_nil)) (eg_name 4 sc_law.nd rfl (.inl rfl)) (es_cons (es_set (i := 5) sc_law.nd rfl (.inl rfl) (ev_ix (ev_frz (evL_lst (ea_cons ev_int (ea_cons (ev_bin op_dPow ev_int ev_int) (ea_cons (ev_bin op_dMul (ev_bin op_dPow ev_int ev_int) (ev_bin op_dPow ev_int ev_int)) ea_nil))))) (ev_callB (ok__law_pick X G c) hr (by decide) nr (by rfl) (ea_cons (ev_var 3 rfl (.inl rfl)) (ea_cons ev_int ea_nil))) (fun _ _ => rfl)))
    (es_one (es_if (evt_not (ev_val (ev_callB (ok__law_right X G c) hr (by decide) nr (by rfl) (ea_cons (ev_var 3 rfl (.inl rfl)) (ea_cons (ev_callB (ok__law_list X G c) hr (by decide) nr (by rfl) (ea_cons (ev_var 3 rfl (.inl rfl)) (ea_cons (ev_ix (ev_frz (evL_lst (ea_cons ev_int (ea_cons ev_int ea_nil)))) (ev_ct ct_int (by rfl) (fr_int X G c) boot_int (ea_cons (ev_and (ev_cmp (op_dEq hr.units) rfl (ev_var 1 rfl (.inl rfl)) ev_int) (ev_one (ev_cmp (op_dEq hr.units) rfl (ev_var 4 rfl (.inl rfl)) ev_int))) ea_nil)) (fun _ _ => rfl)) (ea_cons (ev_var 5 rfl (.inl rfl)) ea_nil)))) ea_nil))))) (es_one (es_ret ev_bl)) es_nil)))))))
    (es_one (es_ret ev_bl)))
end
end K04
end
section
set_option maxHeartbeats 4000000
namespace K04
open PySem PySem.Spec L2 DL
open PyProof.Rows hiding St
open MS (P Valid)
section
variable {S : Cells}
theorem is_int_ok (i : Int) : g_is_int [.int i] S = .ok (.bl true) S := body_rt (S1 := S) rfl (by simp) take_same
theorem in_range_ok {i : Int} (h : 0 ≤ i) : g_in_range [.int i, .int 0, .non] S = .ok (.bl true) S :=
  body_rt (S1 := S) (ret_ok (andE_t (call_ok rfl (is_int_ok i)) (andE_t (b2_ok rfl rfl (show some (D.bl (decide (0 ≤ i))) = _ by rw [decide_eq_true h])) (orE_t rfl)))) (by simp) take_same
theorem is_scan_ok {p : P} (h : 0 ≤ p.1 ∧ 0 ≤ p.2) : g_is_scan [encP p] S = .ok (.bl true) S := by
  refine body_rt (S1 := S) (ret_ok (andE_t rfl (andE_t (b2_ok rfl rfl rfl) (cb_ok (cons_ok (frz_ok (lc_mk (S2 := S) (l := [.bl true, .bl true]) rfl ?_)) rfl) rfl)))) (by simp) take_same
  exact comp_t rfl rfl (call_ok rfl (in_range_ok h.1)) (comp_t rfl rfl (call_ok rfl (in_range_ok h.2)) rfl)
def mm (p : P) : P := (if p.2 < p.1 then p.2 else p.1, if p.1 < p.2 then p.2 else p.1)
theorem min_ok (p : P) : dMinL [encP p] S = some (.int (mm p).1) := by
  show some (D.int (if decide (p.2 < p.1) = true then p.2 else p.1)) = _
  simp [mm]
theorem max_ok (p : P) : dMaxL [encP p] S = some (.int (mm p).2) := by
  show some (D.int (if decide (p.1 < p.2) = true then p.2 else p.1)) = _
  simp [mm]
/-- sorted disjoint intervals follow one another -/
def Asc : Int → List P → Prop
  | _, [] => True
  | b, p :: l => b < p.1 ∧ Asc p.2 l
theorem is_list_loop : ∀ (l : List P) (b : Int) (v0 x2 x3 x4 : Option D), Asc b l → ∃ b' y2 y3, forD (.tp [.nm 2, .nm 3]) L1_is_list (l.map encP) [v0, some (.int b), x2, x3, x4] S = .nx [v0, some (.int b'), y2, y3, x4] S
  | [], b, v0, x2, x3, x4, _ => ⟨b, x2, x3, rfl⟩
  | p :: l, b, v0, x2, x3, x4, h => by
    obtain ⟨b', y2, y3, e⟩ := is_list_loop l p.2 v0 (some (.int p.1)) (some (.int p.2)) x4 h.2
    refine ⟨b', y2, y3, for_cons rfl (sq_nx (if_f (b2T_ok (z := false) rfl rfl ?_) rfl) (set_ok rfl)) e⟩
    show some (D.bl (decide (p.1 ≤ b))) = _
    rw [decide_eq_false (by have := h.1; omega)]
theorem is_list_ok {l : List P} (hv : ∀ p ∈ l, 0 ≤ p.1 ∧ 0 ≤ p.2) (ha : Asc (-1) (sortP (l.map mm))) : g_is_list [.lst (l.map encP)] S = .ok (.bl true) S := by
  obtain ⟨b', y2, y3, e⟩ := is_list_loop (S := S) (sortP (l.map mm)) (-1) (some (.lst (l.map encP))) none none none ha
  refine body_rt (S1 := S) (sq_nx (if_f (or_f (not_ok (b := true) (val_ok rfl rfl)) (not_ok (b := true) (val_ok (d := .bl true) (cb_ok (cons_ok (frz_ok (lc_mk (S2 := S) (l := l.map fun _ => D.bl true) rfl ?_)) rfl) (all_true l)) rfl))) rfl)
    (sq_nx (set_ok rfl) (sq_nx (for_ok (itS_ok (frz_ok (cbL_ok (cons_ok (frz_ok (lc_mk (S2 := S) (l := (l.map mm).map encP) rfl ?_)) rfl) (sortD_ps _))) rfl) e) rfl))) (by simp) take_same
  · exact comp_map encP _ l fun p hp => ⟨_, rfl, call_ok rfl (is_scan_ok (hv p hp))⟩
  · rw [List.map_map]
    exact comp_map encP (encP ∘ mm) l fun p hp => ⟨_, rfl, tup_ok (cons_ok (cb_ok rfl (min_ok p)) (cons_ok (cb_ok rfl (max_ok p)) rfl)) (show 2 ≤ sizeLine by decide)⟩
theorem mm_rng (p : P) (x : Int) : x ∈ MS.rng p ↔ (mm p).1 ≤ x ∧ x ≤ (mm p).2 := by
  rw [MS.mem_rng]
  unfold mm
  simp only
  split <;> split <;> omega
theorem mm_le (p : P) : (mm p).1 ≤ (mm p).2 := by
  unfold mm
  simp only
  split <;> split <;> omega
theorem sortP_perm (l : List P) : (sortP l).Perm l := List.mergeSort_perm _ _
theorem asc_of : ∀ (l : List P) (b : Int), l.Pairwise (fun p q => p.2 < q.1) → (∀ p ∈ l, b < p.1) → Asc b l
  | [], _, _, _ => trivial
  | p :: l, b, h, hb => ⟨hb p List.mem_cons_self, asc_of l p.2 (List.pairwise_cons.mp h).2 (List.pairwise_cons.mp h).1⟩
theorem lexB_le {p q : P} (h : SrtO.lexB q p = false) : p.1 ≤ q.1 := by
  have := SrtO.lexB_no.mp h
  omega
theorem sorted_of (l : List P) : (sortP l).Pairwise fun p q => SrtO.lexB q p = false := by
  have := List.pairwise_mergeSort (le := leP) (fun a b c h1 h2 => by
    unfold leP at *
    simp only [Bool.not_eq_true'] at *
    have a1 := SrtO.lexB_no.mp h1
    have a2 := SrtO.lexB_no.mp h2
    exact SrtO.lexB_no.mpr (by omega)) (fun a b => by
    unfold leP
    cases e1 : SrtO.lexB b a with
    | false => simp
    | true =>
      have q := SrtO.lexB_iff.mp e1
      have : SrtO.lexB a b = false := SrtO.lexB_no.mpr (by omega)
      simp [this]) l
  refine this.imp fun {a b} h => ?_
  unfold leP at h
  simpa using h
theorem disj_of : ∀ {l : List P}, (MS.reads l).Nodup → l.Pairwise fun p q => ∀ x, x ∈ MS.rng p → x ∉ MS.rng q
  | [], _ => .nil
  | p :: l, h => by
    have h : (MS.rng p ++ MS.reads l).Nodup := h
    obtain ⟨_, h2, h3⟩ := List.nodup_append.mp h
    exact List.pairwise_cons.mpr ⟨fun q hq x hx hy => h3 x hx x (MS.mem_reads.mpr ⟨q, hq, hy⟩) rfl, disj_of h2⟩
theorem valid_asc {l : List P} (h : Valid l) : Asc (-1) (sortP (l.map mm)) := by
  have d1 : (l.map mm).Pairwise fun p q => p.2 < q.1 ∨ q.2 < p.1 := by
    rw [List.pairwise_map]
    refine (disj_of h.nd).imp fun {p q} hx => ?_
    have a := mm_le p
    have b := mm_le q
    by_cases c : (mm p).2 < (mm q).1
    · exact .inl c
    · by_cases d : (mm q).2 < (mm p).1
      · exact .inr d
      · exfalso
        by_cases e : (mm p).1 ≤ (mm q).1
        · exact hx (mm q).1 ((mm_rng p _).mpr ⟨e, by omega⟩) ((mm_rng q _).mpr ⟨by omega, b⟩)
        · exact hx (mm p).1 ((mm_rng p _).mpr ⟨by omega, a⟩) ((mm_rng q _).mpr ⟨by omega, by omega⟩)
  have d2 : (sortP (l.map mm)).Pairwise fun p q => p.2 < q.1 ∨ q.2 < p.1 := (List.Perm.pairwise_iff (fun {a b} h => h.symm) (sortP_perm _)).mpr d1
  have le : ∀ p ∈ sortP (l.map mm), p.1 ≤ p.2 ∧ 0 ≤ p.1 := fun p hp => by
    obtain ⟨q, hq, rfl⟩ := List.mem_map.mp ((sortP_perm _).mem_iff.mp hp)
    refine ⟨mm_le q, ?_⟩
    obtain ⟨h1, h2⟩ := h.nn q hq
    unfold mm
    simp only
    split <;> omega
  refine asc_of _ _ ?_ fun p hp => by have := (le p hp).2; omega
  refine List.Pairwise.imp_of_mem (fun {p q} hp hq h => ?_) (d2.and (sorted_of (l.map mm)))
  have e1 := lexB_le h.2
  have e2 := le p hp
  have e3 := le q hq
  rcases h.1 with h1 | h1
  · exact h1
  · omega
theorem require_ok {l : List P} (h : Valid l) : g_require_list [.lst (l.map encP)] S = .ok .non S :=
  body_nx (S1 := S) (if_f (not_ok (b := true) (val_ok (call_ok rfl (is_list_ok h.nn (valid_asc h))) rfl)) rfl) take_same
end
section
variable {S : Cells}
theorem z24 : sizeLine = 16777216 := by decide
/-! tidied -/
theorem prs_lt : ∀ (bs : List Nat) (n : Nat), (bs ++ [n]).Pairwise (· < ·) → ∀ q ∈ MS.prs bs n, q.1 < q.2
  | [], _, _, q, h => by simp [MS.prs] at h
  | [b], n, s, q, h => by
    simp [MS.prs] at h
    subst h
    simpa using s
  | b :: c :: r, n, s, q, h => by
    have s : (b :: ((c :: r) ++ [n])).Pairwise (· < ·) := s
    obtain ⟨s1, s2⟩ := List.pairwise_cons.mp s
    rcases List.mem_cons.mp h with e | h
    · subst e
      exact s1 c (by simp)
    · exact prs_lt (c :: r) n s2 q h
theorem begs_sorted (l : List P) : (MS.begs l ++ [l.length]).Pairwise (· < ·) := by
  rw [List.pairwise_append]
  refine ⟨(List.pairwise_lt_range).filter _, List.pairwise_singleton _ _, fun a ha b hb => ?_⟩
  rw [List.mem_singleton] at hb
  subst hb
  exact MS.begs_lt ha
theorem getD_some {l : List P} {k : Nat} (h : k < l.length) : l[k]? = some (l.getD k MS.z) := by
  rw [List.getD_eq_getElem?_getD, List.getElem?_eq_getElem h]
  rfl
theorem tidied_ok (l : List P) (hz : l.length ≤ 1000) : g_tidied [.lst (l.map encP)] S = .ok ((MS.tid l).map encP) S := by
  have zz := z24
  have hb : (MS.begs l).length ≤ l.length := by
    unfold MS.begs
    exact Nat.le_trans (List.length_filter_le _ _) (Nat.le_of_eq List.length_range)
  refine bodyL_new (sq_nx (set_ok (frz_ok (lc_mk (S1 := S) (S2 := S) (l := (MS.begs l).map fun k : Nat => D.int k) (itR1_ok (cons_ok (cb_ok rfl (dLen_map l)) rfl) (range1_ok (by omega))) ?_)))
    (sq_nx (set_ok (b2_ok (bd_ok rfl rfl) (frz_ok (lst_ok (cons_ok (cb_ok rfl (dLen_map l)) rfl) (show 1 ≤ sizeLine by decide))) (dAdd_lst ?_)))
    (ret_ok (cel_ok (lc_mk (S1 := S) (S2 := S) (l := (MS.tid l).map encP) (itZ_ok rfl) ?_) (flatL_ps _)))))
  · refine comp_filter (fun k : Nat => D.int k) (MS.tst l) _ (List.range l.length) fun k hk => ⟨_, rfl, ?_, fun _ => rfl⟩
    have hk := List.mem_range.mp hk
    cases k with
    | zero => exact or_t (b2T_ok rfl rfl dEq_int)
    | succ j =>
      have e1 : l[j]? = some (l.getD j MS.z) := getD_some (by omega)
      have e2 : l[j + 1]? = some (l.getD (j + 1) MS.z) := getD_some hk
      refine or_f (b2T_ok (z := false) rfl rfl ?_) (b2T_ok (cb_ok (cons_ok (b2_ok (b2_ok (b2_ok rfl (b2_ok rfl rfl rfl) (ix_ps (j := j) (by omega) e1)) rfl rfl) (b2_ok (b2_ok rfl rfl (ix_ps (j := j + 1) rfl e2)) rfl rfl) rfl) rfl) rfl) rfl ?_)
      · rw [dEq_int, decide_eq_false (by omega)]
      · rw [dNe_int]
        rfl
  · show (cutD ((MS.begs l).map fun k : Nat => D.int k) (some 1) none).length + 1 ≤ sizeLine
    have := cutD_len ((MS.begs l).map fun k : Nat => D.int k) (some 1) none
    rw [List.length_map] at this
    omega
  · simp only [cut1]
    rw [← List.map_drop, show ((MS.begs l).drop 1).map (fun k : Nat => D.int k) ++ [D.int (l.length : Nat)] = ((MS.begs l).drop 1 ++ [l.length]).map fun k : Nat => D.int k by rw [List.map_append]; rfl, pairsD_map, MS.prs_zip, ← (MS.begs_tid l).1, List.map_map]
    refine comp_map (fun q : Nat × Nat => D.tup [.int q.1, .int q.2]) (encP ∘ MS.pick l) _ fun q hq => ?_
    obtain ⟨h1, h2⟩ := MS.prs_mem _ _ _ hq
    have h3 := prs_lt _ _ (begs_sorted l) q hq
    have h4 := MS.begs_lt h1
    have h5 : q.2 ≤ l.length := by
      rcases h2 with h2 | h2
      · exact Nat.le_of_lt (MS.begs_lt h2)
      · omega
    exact ⟨_, rfl, tup_ok (cons_ok (b2_ok (b2_ok rfl rfl (ix_ps rfl (getD_some h4))) rfl rfl) (cons_ok (b2_ok (b2_ok rfl (b2_ok rfl rfl rfl) (ix_ps (j := q.2 - 1) (by omega) (getD_some (by omega)))) rfl rfl) rfl)) (show 2 ≤ sizeLine by decide)⟩
theorem tidy_ok {l : List P} (h : Valid l) (hz : l.length ≤ 1000) : g_tidy [.lst (l.map encP)] S = .ok ((MS.tid l).map encP) S :=
  bodyL_new (sq_nx (exp_ok (call_ok rfl (require_ok h))) (ret_ok (cel_ok (callL_ok rfl (tidied_ok l hz)) (flatL_ps _))))
theorem reversed_ok (l : List P) : g_reversed_list [.lst (l.map encP)] S = .ok ((MS.rev l).map encP) S := by
  refine bodyL_new (ret_ok (cel_ok (lc_mk (S1 := S) (S2 := S) (items := l.reverse.map encP) (itS_ok rfl (by rw [List.map_reverse]; rfl)) ?_) (flatL_ps _)))
  unfold MS.rev
  rw [← List.map_reverse, List.map_map]
  exact comp_map encP (encP ∘ MS.swp) _ fun p _ => ⟨_, rfl, rfl⟩
theorem turned_ok {l : List P} (h : Valid l) (hz : l.length ≤ 1000) : g_turned [.lst (l.map encP)] S = .ok ((MS.rev (MS.tid l)).map encP) S :=
  bodyL_new (sq_nx (exp_ok (call_ok rfl (require_ok h))) (ret_ok (cel_ok (callL_ok (cons_ok (frz_ok (callL_ok rfl (tidied_ok l hz))) rfl) (reversed_ok _)) (flatL_ps _))))
theorem size_ok (p : P) : g_size_of [encP p] S = .ok (.int (MS.dist p.2 p.1 + 1)) S := body_rt (S1 := S) (ret_ok (b2_ok (cb_ok rfl rfl) rfl rfl)) (by simp) take_same
theorem total_ok (l : List P) : g_total_of [.lst (l.map encP)] S = .ok (.int (MS.reads l).length) S := by
  refine body_rt (S1 := S) (ret_ok (cb_ok (cons_ok (frz_ok (lc_mk (S1 := S) (S2 := S) (l := (l.map fun p => MS.dist p.2 p.1 + 1).map .int) rfl ?_)) rfl) ?_)) (by simp) take_same
  · rw [List.map_map]
    exact comp_map encP _ l fun p _ => ⟨_, rfl, call_ok rfl (size_ok p)⟩
  · rw [sum_ints, MS.reads_len]
theorem count_ok {l : List P} (h : Valid l) : g_count_addresses [.lst (l.map encP)] S = .ok (.int (MS.reads l).length) S :=
  body_rt (S1 := S) (sq_nx (exp_ok (call_ok rfl (require_ok h))) (ret_ok (call_ok rfl (total_ok l)))) (by simp) take_same
/-! the law's own -/
theorem joined_loop (n : Nat) (v0 : Option D) : ∀ (l acc : List P) (x2 x3 : Option D) (S : Cells), S[n]? = some ⟨true, .lst (acc.map encP)⟩ → acc.length + l.length < sizeLine →
    ∃ y2 y3, forD (.tp [.nm 2, .nm 3]) L1__law_joined (l.map encP) [v0, some (.ref n), x2, x3] S = .nx [v0, some (.ref n), y2, y3] (S.set n ⟨true, .lst ((l.foldl MS.stp acc).map encP)⟩)
  | [], acc, x2, x3, S, h, _ => ⟨x2, x3, by rw [show List.foldl MS.stp acc [] = acc from rfl, set_same h]; rfl⟩
  | p :: l, acc, x2, x3, S, h, hz => by
    rw [List.length_cons] at hz
    have hs : (MS.stp acc p).length ≤ acc.length + 1 := by
      unfold MS.stp
      split
      · split
        · rw [List.length_append, List.length_dropLast, List.length_singleton]
          omega
        · rw [List.length_append]
          exact Nat.le_refl _
      · rw [List.length_append]
        exact Nat.le_refl _
    obtain ⟨y2, y3, e⟩ := joined_loop n v0 l (MS.stp acc p) (some (.int p.1)) (some (.int p.2)) (S.set n ⟨true, .lst ((MS.stp acc p).map encP)⟩) (get_set h) (by omega)
    rw [List.set_set] at e
    refine ⟨y2, y3, for_cons rfl (S1 := S.set n ⟨true, .lst ((MS.stp acc p).map encP)⟩) ?_ e⟩
    have app : mAppend (.ref n) [encP p] S = some (.non, S.set n ⟨true, .lst ((acc ++ [p]).map encP)⟩) := by
      rw [app_ref h (flat_encP p) (by rw [List.length_map]; omega), List.map_append]
      rfl
    rcases List.eq_nil_or_concat acc with ea | ⟨a, q, ea⟩
    · subst ea
      exact if_f (and_f (b2T_ok rfl rfl (dNe_nil h))) (exp_ok (mth_ok rfl (ty_ref h) (cons_ok (tup_ok rfl (show 2 ≤ sizeLine by decide)) rfl) app))
    · rw [List.concat_eq_append] at ea
      subst ea
      have hl : ∀ S' : Cells, S'[n]? = some ⟨true, .lst ((a ++ [q]).map encP)⟩ → ixD (.ref n) (.int (-1)) S' = some (encP q) := fun S' h' => ix_ref h' (by rw [List.map_append]; exact atI_last _ _)
      have ne : dNe (.ref n) (.lst []) S = some (.bl true) := by
        rw [dNe_nil h]
        simp
      have tst : ∀ b, MS.touch q.2 p.1 = b → DL.andM (b2T dNe (rd [v0, some (.ref n), some (.int p.1), some (.int p.2)] 1) (frzE (lstE nilA))) (b2T dEq (cbE dAbs (consM (b2 dSub (b2 ixD (b2 ixD (rd [v0, some (.ref n), some (.int p.1), some (.int p.2)] 1) (b1 dNeg (kon (.int 1)))) (kon (.int 1))) (rd [v0, some (.ref n), some (.int p.1), some (.int p.2)] 2)) nilA)) (kon (.int 1))) S = .ok b S := fun b hb =>
        and_t (b2T_ok rfl rfl ne) (b2T_ok (cb_ok (cons_ok (b2_ok (b2_ok (b2_ok rfl rfl (hl S h)) rfl rfl) rfl rfl) rfl) rfl) rfl (by rw [dEq_int, ← hb]; rfl))
      by_cases ht : MS.touch q.2 p.1 = true
      · refine if_t (tst true ht) ?_
        have e2 : setAtD (.ref n) (.int (-1)) (encP (q.1, p.2)) S = some (S.set n ⟨true, .lst ((MS.stp (a ++ [q]) p).map encP)⟩) := by
          rw [set_ref (j := a.length) h ?_ (flat_encP _), MS.stp_snoc, if_pos ht]
          · congr 4
            rw [List.map_append, List.set_append_right _ _ (by simp)]
            simp
          · rw [List.length_map, List.length_append, List.length_singleton]
            unfold ixN
            simp
            omega
        exact sto_ok (tup_ok (cons_ok (b2_ok (b2_ok rfl rfl (hl S h)) rfl rfl) rfl) (show 2 ≤ sizeLine by decide)) rfl rfl e2
      · refine if_f (tst false (by simpa using ht)) ?_
        have e3 : MS.stp (a ++ [q]) p = (a ++ [q]) ++ [p] := by
          rw [MS.stp_snoc, if_neg ht]
          simp
        rw [e3]
        exact exp_ok (mth_ok rfl (ty_ref h) (cons_ok (tup_ok rfl (show 2 ≤ sizeLine by decide)) rfl) app)
theorem joined_ok (l : List P) (hz : l.length < sizeLine) : g__law_joined [.lst (l.map encP)] S = .ok (.lst ((MS.tid l).map encP)) S := by
  obtain ⟨y2, y3, e⟩ := joined_loop S.length (some (.lst (l.map encP))) l [] none none (S ++ [⟨true, .lst []⟩]) get_new (by simpa using hz)
  have h := body_ref (S := S) (B := B__law_joined) (N := 4) (ds := [.lst (l.map encP)]) (l := (MS.tid l).map encP) (sq_nx (set_ok (cel_ok (lst_ok rfl (Nat.zero_le _)) rfl)) (sq_nx (for_ok (itS_ok rfl rfl) e) (ret_ok rfl))) (Nat.le_refl _) (get_set get_new)
  rw [show ((S ++ [⟨true, .lst []⟩] : Cells).set S.length ⟨true, .lst ((l.foldl MS.stp []).map encP)⟩).take S.length = S by rw [List.set_append_right _ _ (Nat.le_refl _), take_more]] at h
  exact h
end
/-- the bag of draws at cell n; at most k draws so far -/
def Bag (S : Cells) (n k : Nat) : Prop := ∃ a b c : Int, S[n]? = some ⟨true, .lst [.int a, .int b, .int c]⟩ ∧ 0 ≤ c ∧ c ≤ k
/-- nothing but the cells of that list has changed -/
def Mv (S S' : Cells) (ns : List Nat) : Prop := S'.length = S.length ∧ ∀ j, j ∉ ns → S'[j]? = S[j]?
theorem Mv.refl (S : Cells) (ns : List Nat) : Mv S S ns := ⟨rfl, fun _ _ => rfl⟩
theorem Mv.trans {S S1 S2 : Cells} {ns : List Nat} (a : Mv S S1 ns) (b : Mv S1 S2 ns) : Mv S S2 ns := ⟨b.1.trans a.1, fun j h => (b.2 j h).trans (a.2 j h)⟩
theorem Mv.more {S S1 : Cells} {ns ms : List Nat} (a : Mv S S1 ns) (h : ∀ j ∈ ns, j ∈ ms) : Mv S S1 ms := ⟨a.1, fun j hj => a.2 j fun z => hj (h j z)⟩
theorem Mv.set {S : Cells} {n : Nat} (c : Cell) {ns : List Nat} (h : n ∈ ns) : Mv S (S.set n c) ns := ⟨by simp, fun j hj => get_set_ne fun e => hj (e ▸ h)⟩
theorem Bag.mono {S : Cells} {n k j : Nat} (h : Bag S n k) (hk : k ≤ j) : Bag S n j := by
  obtain ⟨a, b, c, h1, h2, h3⟩ := h
  exact ⟨a, b, c, h1, h2, by omega⟩
theorem Bag.mv {S S' : Cells} {n k : Nat} {ns : List Nat} (h : Bag S n k) (m : Mv S S' ns) (hn : n ∉ ns) : Bag S' n k := by
  obtain ⟨a, b, c, h1, h2⟩ := h
  exact ⟨a, b, c, by rw [m.2 n hn]; exact h1, h2⟩
theorem Bag.lt {S : Cells} {n k : Nat} (h : Bag S n k) : n < S.length := by
  obtain ⟨a, b, c, h1, h2⟩ := h
  exact (List.getElem?_eq_some_iff.mp h1).1
theorem take_mv {S S' : Cells} {n m : Nat} (h : Mv S S' [n]) : Mv (S.take m) (S'.take m) [n] := by
  refine ⟨by rw [List.length_take, List.length_take, h.1], fun j hj => ?_⟩
  by_cases e : j < m
  · rw [List.getElem?_take_of_lt e, List.getElem?_take_of_lt e, h.2 j hj]
  · rw [List.getElem?_eq_none (by rw [List.length_take]; omega), List.getElem?_eq_none (by rw [List.length_take]; omega)]
theorem lt_pow {i : Int} {b : Nat} {m : Int} (h0 : 0 ≤ i) (h : i < m) (hm : m ≤ 2 ^ b) : i.natAbs < 2 ^ b := by
  have : ((i.natAbs : Nat) : Int) = i := by omega
  have h2 : ((i.natAbs : Nat) : Int) < ((2 ^ b : Nat) : Int) := by
    rw [this, Int.natCast_pow]
    exact Int.lt_of_lt_of_le h hm
  exact Int.ofNat_lt.mp h2
section
variable {S : Cells}
theorem pick_ok {n k : Nat} {m : Int} (hb : Bag S n k) (hk : k ≤ 1000000000) (hm : 0 < m) (hm2 : m < 1000000000) :
    ∃ (v : Int) (S' : Cells), g__law_pick [.ref n, .int m] S = .ok (.int v) S' ∧ 0 ≤ v ∧ v < m ∧ Bag S' n (k + 1) ∧ Mv S S' [n] := by
  obtain ⟨a, b, c, hc, h0, h1⟩ := hb
  have g1 := get_set (c' := ⟨true, .lst [.int a, .int b, .int (c + 1)]⟩) hc
  have hmz : dMod_ok (S := S) (i := a) hm = dMod_ok hm := rfl
  have hdiv : m.natAbs < 2 ^ 8999 := Nat.lt_of_lt_of_le (lt_pow (b := 30) (by omega) hm2 (by decide)) (Nat.pow_le_pow_right (by decide) (by decide))
  have st1 : ∀ ρ : En, rd ρ 0 = rd [some (.ref n)] 0 → stoS (fun ρ => (b2 dAdd (b2 ixD (rd ρ 0) (kon (.int 2))) (kon (.int 1)))) (fun ρ => (rd ρ 0)) (fun ρ => (kon (.int 2))) ρ S = .nx ρ (S.set n ⟨true, .lst [.int a, .int b, .int (c + 1)]⟩) := fun ρ e =>
    sto_ok (b2_ok (b2_ok (by show rd ρ 0 S = _; rw [e]; rfl) rfl (ix_ref hc rfl)) rfl rfl) (by show rd ρ 0 S = _; rw [e]; rfl) rfl (set_ref (j := 2) hc rfl (flat_int _))
  by_cases ha : 0 < a
  · have g2 := get_set (c' := ⟨true, .lst [.int (a / m), .int b, .int (c + 1)]⟩) g1
    refine ⟨a % m, _, body_rt' (S1 := (S.set n ⟨true, .lst [.int a, .int b, .int (c + 1)]⟩).set n ⟨true, .lst [.int (a / m), .int b, .int (c + 1)]⟩) (sq_nx (st1 _ rfl) (sq_rt (if_t (b2T_ok (z := true) (b2_ok rfl rfl (ix_ref g1 rfl)) rfl ?_)
      (sq_nx (set_ok (b2_ok (cb_ok (cons_ok (b2_ok rfl rfl (ix_ref g1 rfl)) rfl) rfl) rfl (dMod_ok hm))) (sq_nx (sto_ok (b2_ok (cb_ok (cons_ok (b2_ok rfl rfl (ix_ref g1 rfl)) rfl) rfl) rfl (dDiv_ok hm hdiv)) rfl rfl (set_ref (j := 0) g1 rfl (flat_int _))) (ret_ok rfl)))))) (by simp),
      Int.emod_nonneg _ (by omega), Int.emod_lt_of_pos _ hm, ?_⟩
    · show some (D.bl (decide (0 < a))) = _
      rw [decide_eq_true ha]
    · rw [List.set_set, List.take_of_length_le (by simp)]
      exact ⟨⟨_, _, _, get_set hc, by omega, by omega⟩, Mv.set _ (by simp)⟩
  · have f1 : 0 ≤ b % 2147483629 ∧ b % 2147483629 < 2147483629 := ⟨Int.emod_nonneg _ (by decide), Int.emod_lt_of_pos _ (by decide)⟩
    generalize b % 2147483629 = r at f1
    have m1 : okMul (b % 2147483629) 48271 = true := okMul_of 31 16 (lt_pow (Int.emod_nonneg _ (by decide)) (Int.emod_lt_of_pos _ (by decide)) (by decide)) (by decide) (by decide)
    have m2 : okMul (c + 1) 69621 = true := okMul_of 40 17 (lt_pow (m := 2000000000) (by omega) (by omega) (by decide)) (by decide) (by decide)
    have m3 : ∀ x : Int, okMul (x % 2147483647) (x % 2147483647) = true := fun x => okMul_of 31 31 (lt_pow (Int.emod_nonneg _ (by decide)) (Int.emod_lt_of_pos _ (by decide)) (by decide)) (lt_pow (Int.emod_nonneg _ (by decide)) (Int.emod_lt_of_pos _ (by decide)) (by decide)) (by decide)
    have m4 : okMul (c + 1) 40692 = true := okMul_of 40 16 (lt_pow (m := 2000000000) (by omega) (by omega) (by decide)) (by decide) (by decide)
    have m5 : ∀ x : Int, okMul (x % 2147483647) 2147483587 = true := fun x => okMul_of 31 31 (lt_pow (Int.emod_nonneg _ (by decide)) (Int.emod_lt_of_pos _ (by decide)) (by decide)) (by decide) (by decide)
    refine ⟨_, _, body_rt' (S1 := S.set n ⟨true, .lst [.int a, .int b, .int (c + 1)]⟩) (sq_nx (st1 _ rfl) (sq_nx (if_f (b2T_ok (z := false) (b2_ok rfl rfl (ix_ref g1 rfl)) rfl ?_) rfl)
      (sq_nx (par_ok (cons_ok (cb_ok (cons_ok (b2_ok rfl rfl (ix_ref g1 rfl)) rfl) rfl) (cons_ok (cb_ok (cons_ok (b2_ok rfl rfl (ix_ref g1 rfl)) rfl) rfl) rfl)))
      (sq_nx (set_ok (b2_ok (cb_ok (cons_ok (b2_ok (b2_ok (b2_ok (b2_ok rfl rfl (dMod_ok (by decide))) rfl (dMul_ok m1)) (b2_ok rfl rfl (dMul_ok m2)) rfl) rfl rfl) rfl) rfl) rfl (dMod_ok (by decide))))
      (sq_nx (set_ok (b2_ok (cb_ok (cons_ok (b2_ok (b2_ok rfl rfl (dMul_ok (m3 _))) (b2_ok rfl rfl (dMul_ok m4)) rfl) rfl) rfl) rfl (dMod_ok (by decide))))
      (ret_ok (b2_ok (cb_ok (cons_ok (b2_ok (b2_ok (b2_ok rfl rfl (dMul_ok (m5 _))) rfl rfl) rfl (dDiv_ok (by decide) (Nat.lt_of_lt_of_le (by decide : (32 : Int).natAbs < 2 ^ 6) (Nat.pow_le_pow_right (by decide) (by decide))))) rfl) rfl) rfl (dMod_ok hm)))))))) (by simp),
      Int.emod_nonneg _ (by omega), Int.emod_lt_of_pos _ hm, ?_⟩
    · show some (D.bl (decide (0 < a))) = _
      rw [decide_eq_false ha]
    · rw [List.take_of_length_le (by simp)]
      exact ⟨⟨_, _, _, get_set hc, by omega, by omega⟩, Mv.set _ (by simp)⟩
theorem pow18 : dPow (.int 10) (.int 18) S = some (.int 1000000000000000000) := by kernel_rfl
theorem bag_ok (i : Int) : ∃ a b : Int, g__law_bag [.int i] S = .ok [.int a, .int b, .int 0] S :=
  ⟨if i - 1000000000000000000 > 0 then i - 1000000000000000000 else 0, i, bodyL_new (ret_ok (cel_ok (lst_ok (cons_ok (cb_ok (cons_ok rfl (cons_ok (b2_ok rfl (b2_ok rfl rfl pow18) rfl) rfl)) rfl) rfl) (show 3 ≤ sizeLine by decide)) (by simp [flatL])))⟩
end
section
theorem while_stop {c : En → M Bool} {B : SM} {n : Nat} {ρ : En} {S S1 : Cells} (h : c ρ S = .ok false S1) : whileD c B (n + 1) ρ S = .nx ρ S1 := by
  show tstM (c ρ S) ρ _ = _
  rw [h]
  rfl
theorem while_go {c : En → M Bool} {B : SM} {n : Nat} {ρ ρ1 : En} {S S1 S2 : Cells} {o : Out} (h : c ρ S = .ok true S1) (h2 : B ρ S1 = .nx ρ1 S2) (h3 : whileD c B n ρ1 S2 = o) : whileD c B (n + 1) ρ S = o := by
  show tstM (c ρ S) ρ _ = _
  rw [h]
  show stepD (whileD c B n) (B ρ S1) = _
  rw [h2]
  exact h3
theorem while_ok {c : En → M Bool} {B : SM} {n : Nat} {ρ ρ1 : En} {S S1 : Cells} (h : whileD c B n ρ S = .nx ρ1 S1) : whileW c B ρ S = .nx ρ1 S1 := whileW_of h (by simp)
abbrev cMix : En → M Bool := fun ρ => (b2T dNe (rd ρ 2) (frzE (lstE nilA)))
theorem perm_erase : ∀ {L : List P} {v : Nat} {p : P}, L[v]? = some p → (p :: L.eraseIdx v).Perm L
  | [], _, _, h => by simp at h
  | x :: L, 0, p, h => by
    simp at h
    subst h
    exact List.Perm.refl _
  | x :: L, v + 1, p, h => by
    have h : L[v]? = some p := by simpa using h
    show (p :: x :: L.eraseIdx v).Perm (x :: L)
    exact (List.Perm.swap x p _).trans ((perm_erase h).cons x)
theorem erase_map {f : P → D} : ∀ (L : List P) (v : Nat), (L.map f).eraseIdx v = (L.eraseIdx v).map f
  | [], _ => rfl
  | x :: L, 0 => rfl
  | x :: L, v + 1 => by
    show f x :: (L.map f).eraseIdx v = f x :: (L.eraseIdx v).map f
    rw [erase_map L v]
theorem ixN_nat {n : Nat} {v : Int} (h0 : 0 ≤ v) (h1 : v < n) : ixN n v = some v.toNat := by
  unfold ixN
  rw [if_pos h0, if_pos h1]
theorem mixed_loop (nb nl nf : Nat) (v1 : Option D) (d1 : nb ≠ nl) (d2 : nb ≠ nf) (d3 : nl ≠ nf) : ∀ (j : Nat) (L F : List P) (S : Cells) (k : Nat), L.length = j → Bag S nb k → S[nl]? = some ⟨true, .lst (L.map encP)⟩ → S[nf]? = some ⟨true, .lst (F.map encP)⟩ → k + j ≤ 1000000000 → F.length + j < 1000000 →
    ∃ (F' : List P) (S' : Cells), whileD cMix L1__law_mixed (j + 1) [some (.ref nb), v1, some (.ref nl), some (.ref nf)] S = .nx [some (.ref nb), v1, some (.ref nl), some (.ref nf)] S' ∧ F'.Perm (L ++ F) ∧ S'[nf]? = some ⟨true, .lst (F'.map encP)⟩ ∧ Bag S' nb (k + j) ∧ Mv S S' [nb, nl, nf]
  | 0, L, F, S, k, hj, hb, hl, hf, hk, hz => by
    have e : L = [] := List.length_eq_zero_iff.mp hj
    subst e
    exact ⟨F, S, while_stop (b2T_ok rfl rfl (dNe_nil hl)), List.Perm.refl _, hf, hb, Mv.refl _ _⟩
  | j + 1, L, F, S, k, hj, hb, hl, hf, hk, hz => by
    obtain ⟨v, S1, e1, h0, h1, hb1, mv1⟩ := pick_ok hb (by omega) (m := (L.length : Nat)) (by omega) (by omega)
    have hv : v.toNat < L.length := by omega
    have gl1 : S1[nl]? = some ⟨true, .lst (L.map encP)⟩ := by rw [mv1.2 nl (by simp; exact d1.symm)]; exact hl
    have gf1 : S1[nf]? = some ⟨true, .lst (F.map encP)⟩ := by rw [mv1.2 nf (by simp; exact d2.symm)]; exact hf
    have ep : L[v.toNat]? = some (L.getD v.toNat MS.z) := getD_some hv
    have pop : mPopAt (.ref nl) [.int v] S1 = some (encP (L.getD v.toNat MS.z), S1.set nl ⟨true, .lst ((L.eraseIdx v.toNat).map encP)⟩) := by
      unfold mPopAt
      rw [live_ref gl1]
      show (if -(2 ^ 63) ≤ v ∧ v < 2 ^ 63 then match ixN (L.map encP).length v with
        | some k => match (L.map encP)[k]? with
          | some y => some (y, S1.set nl ⟨true, .lst ((L.map encP).eraseIdx k)⟩)
          | none => none
        | none => none else none) = _
      rw [if_pos ⟨by omega, by omega⟩, List.length_map]
      have ei : ixN L.length v = some v.toNat := ixN_nat h0 h1
      rw [ei]
      show (match (L.map encP)[v.toNat]? with
          | some y => some (y, S1.set nl ⟨true, .lst ((L.map encP).eraseIdx v.toNat)⟩)
          | none => none) = _
      rw [List.getElem?_map, ep]
      show some (encP _, _) = _
      rw [erase_map]
    have gf2 : (S1.set nl ⟨true, .lst ((L.eraseIdx v.toNat).map encP)⟩)[nf]? = some ⟨true, .lst (F.map encP)⟩ := by rw [get_set_ne d3]; exact gf1
    obtain ⟨F', S', e2, pm, gf', hb', mv'⟩ := mixed_loop nb nl nf v1 d1 d2 d3 j (L.eraseIdx v.toNat) (F ++ [L.getD v.toNat MS.z]) ((S1.set nl ⟨true, .lst ((L.eraseIdx v.toNat).map encP)⟩).set nf ⟨true, .lst ((F ++ [L.getD v.toNat MS.z]).map encP)⟩) (k + 1)
      (by rw [List.length_eraseIdx, if_pos hv]; omega) ((hb1.mv (Mv.set _ (ns := [nl]) (by simp)) (by simp; exact d1)).mv (Mv.set _ (ns := [nf]) (by simp)) (by simp; exact d2)) (by rw [get_set_ne d3.symm]; exact get_set gl1) (get_set gf2) (by omega) (by rw [List.length_append, List.length_singleton]; omega)
    have app : mAppend (.ref nf) [encP (L.getD v.toNat MS.z)] (S1.set nl ⟨true, .lst ((L.eraseIdx v.toNat).map encP)⟩) = some (.non, (S1.set nl ⟨true, .lst ((L.eraseIdx v.toNat).map encP)⟩).set nf ⟨true, .lst ((F ++ [L.getD v.toNat MS.z]).map encP)⟩) := by
      rw [app_ref gf2 (flat_encP _) (by rw [List.length_map]; have := z24; omega), List.map_append]
      rfl
    have e1' : g__law_pick [.ref nb, .int ((L.map encP).length : Nat)] S = .ok (.int v) S1 := by
      rw [List.length_map]
      exact e1
    refine ⟨F', S', while_go (S1 := S) (b2T_ok rfl rfl ?_) (exp_ok (mth_ok rfl (ty_ref hf) (cons_ok (mth_ok rfl (ty_ref hl) (cons_ok (call_ok (cons_ok rfl (cons_ok (cb_ok rfl (len_ref hl)) rfl)) e1') rfl) pop) rfl) app)) e2, ?_, gf', by rw [show k + (j + 1) = k + 1 + j by omega]; exact hb', ?_⟩
    · rw [dNe_nil hl]
      cases L with
      | nil => simp at hj
      | cons x L => rfl
    · refine pm.trans ?_
      have := perm_erase ep
      refine List.Perm.trans (l₂ := L.eraseIdx v.toNat ++ (L.getD v.toNat MS.z :: F)) ?_ ?_
      · exact (List.perm_append_comm (l₁ := F) (l₂ := [L.getD v.toNat MS.z])).append_left _
      · refine List.perm_middle.trans ?_
        exact this.append_right F
    · refine (mv1.more (by simp)).trans ?_
      exact Mv.trans (Mv.set (n := nl) ⟨true, .lst ((L.eraseIdx v.toNat).map encP)⟩ (by simp)) (Mv.trans (Mv.set (n := nf) _ (by simp)) mv')
variable {S : Cells}
theorem take_of_mv {S S' : Cells} {ns : List Nat} {m : Nat} (hm : m ≤ S.length) (h : Mv S S' ns) (n : Nat) (hn : ∀ j ∈ ns, j = n ∨ m ≤ j) : Mv (S.take m) (S'.take m) [n] := by
  refine ⟨by rw [List.length_take, List.length_take, h.1], fun j hj => ?_⟩
  by_cases e : j < m
  · rw [List.getElem?_take_of_lt e, List.getElem?_take_of_lt e]
    refine h.2 j fun z => ?_
    rcases hn j z with q | q
    · exact hj (by simp [q])
    · omega
  · rw [List.getElem?_eq_none (by rw [List.length_take]; omega), List.getElem?_eq_none (by rw [List.length_take]; omega)]
theorem bag_take {S : Cells} {n k m : Nat} (h : Bag S n k) (hn : n < m) : Bag (S.take m) n k := by
  obtain ⟨a, b, c, h1, h2⟩ := h
  exact ⟨a, b, c, by rw [List.getElem?_take_of_lt hn]; exact h1, h2⟩
theorem get_app {S : Cells} {j : Nat} {l : Cells} (h : j < S.length) : (S ++ l)[j]? = S[j]? := List.getElem?_append_left h
theorem bag_app {S : Cells} {n k : Nat} {l : Cells} (h : Bag S n k) : Bag (S ++ l) n k := by
  have hl := h.lt
  obtain ⟨a, b, c, h1, h2⟩ := h
  exact ⟨a, b, c, by rw [get_app hl]; exact h1, h2⟩
theorem mixed_ok {nb k : Nat} (l : List P) (hb : Bag S nb k) (hk : k + l.length ≤ 1000000000) (hz : l.length < 1000000) :
    ∃ (l' : List P) (S' : Cells), g__law_mixed [.ref nb, .lst (l.map encP)] S = .ok (.lst (l'.map encP)) S' ∧ l'.Perm l ∧ Bag S' nb (k + l.length) ∧ Mv S S' [nb] := by
  have hl := hb.lt
  have hb2 : Bag ((S ++ [⟨true, .lst (l.map encP)⟩]) ++ [⟨true, .lst (([] : List P).map encP)⟩]) nb k := bag_app (bag_app hb)
  obtain ⟨F', S', e, pm, gf, hb', mv⟩ := mixed_loop nb S.length (S.length + 1) (some (.lst (l.map encP))) (by omega) (by omega) (by omega) l.length l [] _ k rfl hb2 (by rw [get_app (by simp), get_new]) (by
    have := get_new (S := S ++ [⟨true, .lst (l.map encP)⟩]) (c := ⟨true, .lst (([] : List P).map encP)⟩)
    rw [List.length_append, List.length_singleton] at this
    exact this) hk (by simpa using hz)
  have ne : ((S ++ [⟨true, .lst (l.map encP)⟩] : Cells)).length = S.length + 1 := by simp
  have h := body_ref (S := S) (B := B__law_mixed) (N := 4) (ds := [.ref nb, .lst (l.map encP)]) (l := F'.map encP)
    (sq_nx (par_ok (cons_ok (cel_ok (cbL_ok rfl rfl) (flatL_ps l)) (cons_ok (cel_ok (lst_ok rfl (Nat.zero_le _)) rfl) rfl))) (sq_nx (while_ok (by rw [ne]; exact e)) (ret_ok rfl))) (by omega) gf
  refine ⟨F', _, h, by simpa using pm, bag_take hb' hl, ?_⟩
  have := take_of_mv (m := S.length) (by simp) mv nb (by simp)
  rw [List.append_assoc, take_more] at this
  exact this
end
structure Nice (l : List P) : Prop where
  v : Valid l
  b : ∀ p ∈ l, p.1 < 1000 ∧ p.2 < 1000
  z : l.length ≤ 100
section
variable {S : Cells}
theorem Nice.rd {l : List P} (h : Nice l) : ∀ a ∈ MS.reads l, 0 ≤ a ∧ a < 1000 := fun a ha => by
  obtain ⟨p, hp, hr⟩ := MS.mem_reads.mp ha
  have h1 := h.v.nn p hp
  have h2 := h.b p hp
  rcases MS.mem_rng.mp hr with ⟨h3, h4⟩ | ⟨h3, h4⟩ <;> omega
theorem reads_short : ∀ (l : List P), (∀ p ∈ l, (0 ≤ p.1 ∧ 0 ≤ p.2) ∧ p.1 < 1000 ∧ p.2 < 1000) → (MS.reads l).length ≤ 1000 * l.length
  | [], _ => Nat.zero_le _
  | p :: l, h => by
    have ih := reads_short l fun q hq => h q (List.mem_cons_of_mem _ hq)
    show (MS.rng p ++ MS.reads l).length ≤ _
    rw [List.length_append, List.length_cons]
    have := MS.rng_len p
    have hp := h p List.mem_cons_self
    have : MS.dist p.2 p.1 < 1000 := by unfold MS.dist; split <;> omega
    omega
theorem Nice.rlen {l : List P} (h : Nice l) : (MS.reads l).length ≤ 100000 := by
  have := reads_short l fun p hp => ⟨h.v.nn p hp, h.b p hp⟩
  have := h.z
  omega
theorem fold_len : ∀ (l acc : List P), (l.foldl MS.stp acc).length ≤ acc.length + l.length
  | [], acc => Nat.le_refl _
  | p :: l, acc => by
    have := fold_len l (MS.stp acc p)
    have hs : (MS.stp acc p).length ≤ acc.length + 1 := by
      unfold MS.stp
      split
      · split
        · rw [List.length_append, List.length_dropLast, List.length_singleton]
          omega
        · rw [List.length_append]
          exact Nat.le_refl _
      · rw [List.length_append]
        exact Nat.le_refl _
    rw [List.foldl_cons, List.length_cons]
    omega
theorem Nice.tid {l : List P} (h : Nice l) : Nice (MS.tid l) := by
  refine ⟨h.v.tid, fun p hp => ?_, Nat.le_trans (fold_len l []) (by simpa using h.z)⟩
  have m : ∀ a ∈ MS.rng p, a ∈ MS.reads l := fun a ha => by
    rw [← MS.reads_tid h.v.nd]
    exact MS.mem_reads.mpr ⟨p, hp, ha⟩
  exact ⟨(h.rd _ (m _ (MS.end_mem p).1)).2, (h.rd _ (m _ (MS.end_mem p).2)).2⟩
theorem Nice.log {l : List P} (h : Nice l) : ∀ p ∈ l, logOk p.1 ∧ logOk p.2 := fun p hp =>
  ⟨logOk_of (b := 10) (lt_pow (h.v.nn p hp).1 (h.b p hp).1 (by decide)), logOk_of (b := 10) (lt_pow (h.v.nn p hp).2 (h.b p hp).2 (by decide))⟩
theorem rev_log {l : List P} (h : ∀ p ∈ l, logOk p.1 ∧ logOk p.2) : ∀ p ∈ MS.rev l, logOk p.1 ∧ logOk p.2 := fun p hp => by
  unfold MS.rev at hp
  rw [List.mem_reverse, List.mem_map] at hp
  obtain ⟨q, hq, rfl⟩ := hp
  exact ⟨(h q hq).2, (h q hq).1⟩
/-! the three together, written -/
def tri (a b : List P) (c : Int) : List PyData := [.list (a.map pyP), .list (b.map pyP), .int c]
theorem tri_repr {d : D} {a b : List P} {c : Int} (hv : vw S d = some (.list (tri a b c))) (hd : ∀ i, d ≠ .int i) (ha : ∀ p ∈ a, logOk p.1 ∧ logOk p.2) (hb : ∀ p ∈ b, logOk p.1 ∧ logOk p.2) (hc : logOk c) (za : a.length ≤ 100) (zb : b.length ≤ 100) : reprD [d] S = some (.str (PyData.list (tri a b c)).shown) := by
  refine repr_list hv hd ?_ ?_ ?_ ?_
  · show (PyData.showableAll (a.map pyP) && (PyData.showableAll (b.map pyP) && (decide (c.natAbs.log2 < 1920) && true))) = true
    rw [showable_ps a ha, showable_ps b hb, decide_eq_true (show c.natAbs.log2 < 1920 from hc)]
    rfl
  · show (PyData.hasDictAll (a.map pyP) || (PyData.hasDictAll (b.map pyP) || (false || false))) = false
    rw [nodict_ps, nodict_ps]
    rfl
  · show max (PyData.depthAll (a.map pyP) + 1) (max (PyData.depthAll (b.map pyP) + 1) (max 0 0)) ≤ 59
    have := depth_ps a
    have := depth_ps b
    omega
  · show (listText (PyData.shownAll (tri a b c))).length ≤ sizeLine
    have h0 := listText_le (PyData.shownAll (tri a b c))
    have h1 := shown_ps_le a ha
    have h2 := shown_ps_le b hb
    have h3 := shown_int_le hc
    have h4 : piled (PyData.shownAll (tri a b c)) = ((PyData.list (a.map pyP)).shown.length + 2) + (((PyData.list (b.map pyP)).shown.length + 2) + (((PyData.int c).shown.length + 2) + 0)) := by
      unfold tri
      rw [PyData.shownAll_cons, PyData.shownAll_cons, PyData.shownAll_cons, PyData.shownAll_nil, piled_cons, piled_cons, piled_cons, piled_nil]
    have := z24
    omega
theorem vw_tri (a b : List P) (c : Int) : vw S (.lst [.lst (a.map encP), .lst (b.map encP), .int c]) = some (.list (tri a b c)) := by
  have e : resv 0 S (.lst [.lst (a.map encP), .lst (b.map encP), .int c]) = some (.lst [.lst (a.map encP), .lst (b.map encP), .int c]) := by
    apply resv_flat
    rw [flat_lst]
    unfold flatL
    simp [flat_ps]
  unfold vw
  rw [e]
  show (match toPyL [D.lst (a.map encP), .lst (b.map encP), .int c] with
    | some m => some (PyData.list m)
    | none => none) = _
  have e2 : toPyL [D.lst (a.map encP), .lst (b.map encP), .int c] = some (tri a b c) := by
    unfold toPyL toPy
    rw [toPyP]
    show (match some (PyData.list (a.map pyP)), toPyL [.lst (b.map encP), .int c] with
      | some e, some es => some (e :: es)
      | _, _ => none) = _
    unfold toPyL toPy
    rw [toPyP]
    rfl
  rw [e2]
theorem vw_tri_ref {n m : Nat} {x y : Bool} {a b : List P} {c : Int} (ha : S[n]? = some ⟨x, .lst (a.map encP)⟩) (hb : S[m]? = some ⟨y, .lst (b.map encP)⟩) : vw S (.lst [.ref n, .ref m, .int c]) = some (.list (tri a b c)) := by
  rw [← vw_tri (S := S) a b c]
  have e : resv 0 S (.lst [.ref n, .ref m, .int c]) = some (.lst [.lst (a.map encP), .lst (b.map encP), .int c]) := by
    have r1 : resv 0 S (.ref n) = some (.lst (a.map encP)) := by
      unfold resv
      rw [if_neg (by omega), ha]
    have r2 : resv 0 S (.ref m) = some (.lst (b.map encP)) := by
      unfold resv
      rw [if_neg (by omega), hb]
    show (match resvL 0 S [.ref n, .ref m, .int c] with
      | some l' => some (D.lst l')
      | none => none) = _
    unfold resvL
    rw [r1]
    show (match (match some (D.lst (a.map encP)), resvL 0 S [.ref m, .int c] with
      | some d', some ds' => some (d' :: ds')
      | _, _ => none) with
      | some l' => some (D.lst l')
      | none => none) = _
    unfold resvL
    rw [r2]
    rfl
  have e2 : resv 0 S (.lst [.lst (a.map encP), .lst (b.map encP), .int c]) = some (.lst [.lst (a.map encP), .lst (b.map encP), .int c]) := by
    apply resv_flat
    rw [flat_lst]
    unfold flatL
    simp [flat_ps]
  unfold vw
  rw [e, e2]
end
section
theorem pick2 {S S1 : Cells} {ds : List D} {d0 d1 : D} {v : Int} (h0 : 0 ≤ v) (h1 : v < 2) : ixD (.lst [d0, d1]) (.int v) S1 = some (if v = 0 then d0 else d1) := by
  rcases (show v = 0 ∨ v = 1 by omega) with e | e
  · subst e
    rfl
  · subst e
    rfl
/-- a scan of what is between two marks -/
theorem scan_more {F : List P} {m m2 : Int} {p : P} (hF : Valid F) (hm : ∀ a ∈ MS.reads F, a < m) (h0 : 0 ≤ m) (h : m < m2) (hp : p = (m, m2 - 1) ∨ p = (m2 - 1, m)) : Valid (F ++ [p]) ∧ ∀ a ∈ MS.reads (F ++ [p]), a < m2 := by
  have mr : ∀ a ∈ MS.rng p, m ≤ a ∧ a < m2 := fun a ha => by
    rcases hp with e | e <;> subst e <;> rcases MS.mem_rng.mp ha with ⟨h3, h4⟩ | ⟨h3, h4⟩ <;> simp only at h3 h4 <;> omega
  have er : MS.reads (F ++ [p]) = MS.reads F ++ MS.rng p := by rw [MS.reads_app, MS.reads_one]
  refine ⟨⟨fun q hq => ?_, ?_⟩, fun a ha => ?_⟩
  · rcases List.mem_append.mp hq with hq | hq
    · exact hF.nn q hq
    · rw [List.mem_singleton] at hq
      subst hq
      rcases hp with e | e <;> subst e <;> exact ⟨by simp only; omega, by simp only; omega⟩
  · rw [er, List.nodup_append]
    exact ⟨hF.nd, MS.rng_nodup p, fun a ha b hb e => by
      have := hm a ha
      have := (mr b hb).1
      omega⟩
  · rw [er] at ha
    rcases List.mem_append.mp ha with ha | ha
    · have := hm a ha
      omega
    · exact (mr a ha).2
def zipI (l : List Int) : List D := pairsD (l.map .int) ((l.drop 1).map .int)
theorem zipI_cons (a b : Int) (l : List Int) : zipI (a :: b :: l) = .tup [.int a, .int b] :: zipI (b :: l) := rfl
theorem list_loop (nb nf : Nat) (v1 v2 v3 x7 : Option D) (d1 : nb ≠ nf) : ∀ (ms : List Int) (m : Int) (F : List P) (S : Cells) (k : Nat) (x5 x6 : Option D), (m :: ms).Pairwise (· < ·) → 0 ≤ m → (∀ a ∈ m :: ms, a < 1000) → Bag S nb k → S[nf]? = some ⟨true, .lst (F.map encP)⟩ → Valid F → (∀ a ∈ MS.reads F, a < m) → F.length + ms.length ≤ 100 → k + 2 * ms.length ≤ 1000000 →
    ∃ (F' : List P) (S' : Cells) (y5 y6 : Option D), forD (.tp [.nm 5, .nm 6]) L1__law_list (zipI (m :: ms)) [some (.ref nb), v1, v2, v3, some (.ref nf), x5, x6, x7] S = .nx [some (.ref nb), v1, v2, v3, some (.ref nf), y5, y6, x7] S' ∧ Nice F' ∧ S'[nf]? = some ⟨true, .lst (F'.map encP)⟩ ∧ Bag S' nb (k + 2 * ms.length) ∧ Mv S S' [nb, nf]
  | [], m, F, S, k, x5, x6, hp, h0, hb, bag, gf, hF, hm, hz, hk => by
    refine ⟨F, S, x5, x6, rfl, ⟨hF, fun p hp => ?_, by simp at hz; omega⟩, gf, bag, Mv.refl _ _⟩
    have e1 := hm p.1 (MS.mem_reads.mpr ⟨p, hp, (MS.end_mem p).1⟩)
    have e2 := hm p.2 (MS.mem_reads.mpr ⟨p, hp, (MS.end_mem p).2⟩)
    have := hb m List.mem_cons_self
    omega
  | m2 :: ms, m, F, S, k, x5, x6, hp, h0, hb, bag, gf, hF, hm, hz, hk => by
    rw [List.length_cons] at hz hk
    have hlt : m < m2 := (List.pairwise_cons.mp hp).1 m2 List.mem_cons_self
    have hp2 := (List.pairwise_cons.mp hp).2
    have hb2 : ∀ a ∈ m2 :: ms, a < 1000 := fun a ha => hb a (List.mem_cons_of_mem _ ha)
    obtain ⟨v, S1, e1, c0, c1, bag1, mv1⟩ := pick_ok bag (by omega) (m := 4) (by decide) (by decide)
    have gf1 : S1[nf]? = some ⟨true, .lst (F.map encP)⟩ := by rw [mv1.2 nf (by simp; exact d1.symm)]; exact gf
    rw [zipI_cons]
    by_cases hv : v > 0
    · obtain ⟨u, S2, e2, u0, u1, bag2, mv2⟩ := pick_ok bag1 (by omega) (m := 2) (by decide) (by decide)
      have gf2 : S2[nf]? = some ⟨true, .lst (F.map encP)⟩ := by rw [mv2.2 nf (by simp; exact d1.symm)]; exact gf1
      let p : P := if u = 0 then (m, m2 - 1) else (m2 - 1, m)
      have hp' : p = (m, m2 - 1) ∨ p = (m2 - 1, m) := by
        show (if u = 0 then _ else _) = _ ∨ (if u = 0 then _ else _) = _
        split
        · exact .inl rfl
        · exact .inr rfl
      obtain ⟨w1, w2⟩ := scan_more hF hm h0 hlt hp'
      have ip : ixD (.lst [encP (m, m2 - 1), encP (m2 - 1, m)]) (.int u) S2 = some (encP p) := by
        rw [pick2 (S := S2) (ds := []) u0 u1]
        show some (if u = 0 then encP _ else encP _) = some (encP (if u = 0 then _ else _))
        split <;> rfl
      have ap : mAppend (.ref nf) [encP p] S2 = some (.non, S2.set nf ⟨true, .lst ((F ++ [p]).map encP)⟩) := by
        rw [app_ref gf2 (flat_encP _) (by rw [List.length_map]; have := z24; omega), List.map_append]
        rfl
      obtain ⟨F', S', y5, y6, e, nice, gf', bag', mv'⟩ := list_loop nb nf v1 v2 v3 x7 d1 ms m2 (F ++ [p]) (S2.set nf ⟨true, .lst ((F ++ [p]).map encP)⟩) (k + 2) (some (.int m)) (some (.int m2)) hp2 (by omega) hb2 (bag2.mv (Mv.set _ (ns := [nf]) (by simp)) (by simp; exact d1)) (get_set gf2) w1 w2 (by rw [List.length_append, List.length_singleton]; omega) (by omega)
      refine ⟨F', S', y5, y6, for_cons rfl (if_t (b2T_ok (z := true) (call_ok rfl e1) rfl ?_) (exp_ok (mth_ok rfl (ty_ref gf1) (cons_ok (b2_ok (frz_ok (lst_ok rfl (show 2 ≤ sizeLine by decide))) (call_ok rfl e2) ip) rfl) ap))) e, nice, gf', bag'.mono (by rw [List.length_cons]; omega), ?_⟩
      · show some (D.bl (decide (0 < v))) = _
        rw [decide_eq_true hv]
      · exact ((mv1.trans mv2).more (by simp)).trans (Mv.trans (Mv.set (n := nf) _ (by simp)) mv')
    · obtain ⟨F', S', y5, y6, e, nice, gf', bag', mv'⟩ := list_loop nb nf v1 v2 v3 x7 d1 ms m2 F S1 (k + 1) (some (.int m)) (some (.int m2)) hp2 (by omega) hb2 bag1 gf1 hF (fun a ha => by have := hm a ha; omega) (by omega) (by omega)
      refine ⟨F', S', y5, y6, for_cons rfl (if_f (b2T_ok (z := false) (call_ok rfl e1) rfl ?_) rfl) e, nice, gf', bag'.mono (by rw [List.length_cons]; omega), (mv1.more (by simp)).trans mv'⟩
      show some (D.bl (decide (0 < v))) = _
      rw [decide_eq_false hv]
theorem ints_of : ∀ (ds : List D) (w : Int), (∀ d ∈ ds, ∃ v, d = .int v ∧ 0 ≤ v ∧ v < w) → ∃ ns : List Int, ds = ns.map .int ∧ ∀ v ∈ ns, 0 ≤ v ∧ v < w
  | [], _, _ => ⟨[], rfl, by simp⟩
  | d :: ds, w, h => by
    obtain ⟨v, e, h1⟩ := h d List.mem_cons_self
    obtain ⟨ns, e2, h2⟩ := ints_of ds w fun d hd => h d (List.mem_cons_of_mem _ hd)
    subst e e2
    exact ⟨v :: ns, rfl, fun u hu => by
      rcases List.mem_cons.mp hu with q | q
      · subst q; exact h1
      · exact h2 u q⟩
theorem Nice.perm {l m : List P} (h : Nice l) (p : l.Perm m) : Nice m := ⟨h.v.perm p, fun q hq => h.b q (p.mem_iff.mpr hq), by rw [← p.length_eq]; exact h.z⟩
theorem Nice.nil : Nice [] := ⟨Valid.nil, fun p h => by simp at h, Nat.zero_le _⟩
variable {S : Cells}
theorem sortD_ref {n : Nat} {b : Bool} {l : List P} (h : S[n]? = some ⟨b, .lst (l.map encP)⟩) : sortD [.ref n] S = some ((sortP l).map encP) := by
  have e := sortD_ps (S := S) l
  unfold sortD at e ⊢
  have e1 : listOf [.ref n] S = some (l.map encP) := seqL_ref h
  have e2 : listOf [.lst (l.map encP)] S = some (l.map encP) := rfl
  rw [e1]
  rw [e2] at e
  exact e
theorem fz_ref {n : Nat} {b : Bool} {l : List D} (h : S[n]? = some ⟨b, .lst l⟩) : fzM (.ref n) S = .ok (.lst l) (S.set n ⟨false, .lst l⟩) := by
  unfold fzM M.chg
  simp only [h]
theorem comp_J {ρ : En} {p : Pat} {fe : En → M D} (J : Nat → Cells → Prop) (Q : D → Prop) (n : Nat) : ∀ (ds : List D) (k : Nat) (S : Cells), k + ds.length ≤ n → J k S → (∀ d ∈ ds, ∀ k S, k < n → J k S → ∃ ρ1 y S2, p.put d ρ = some ρ1 ∧ fe ρ1 S = .ok y S2 ∧ Q y ∧ J (k + 1) S2) →
    ∃ l S2, compD p (fun _ => yesM) fe ρ ds S = .ok l S2 ∧ (∀ y ∈ l, Q y) ∧ l.length = ds.length ∧ J (k + ds.length) S2
  | [], k, S, _, j, _ => ⟨[], S, rfl, fun y h => by simp at h, rfl, j⟩
  | d :: ds, k, S, hn, j, h => by
    rw [List.length_cons] at hn
    obtain ⟨ρ1, y, S2, e1, e2, q, j2⟩ := h d List.mem_cons_self k S (by omega) j
    obtain ⟨l, S3, e3, q3, n3, j3⟩ := comp_J J Q n ds (k + 1) S2 (by omega) j2 fun b hb => h b (List.mem_cons_of_mem _ hb)
    refine ⟨y :: l, S3, comp_t e1 rfl e2 e3, fun z hz => ?_, by simp [n3], ?_⟩
    · rcases List.mem_cons.mp hz with e | hz
      · rw [e]; exact q
      · exact q3 z hz
    · rw [List.length_cons, show k + (ds.length + 1) = k + 1 + ds.length by omega]
      exact j3
theorem bodyD_of {N : Nat} {B : SM} {ds l : List D} {d : D} {S1 : Cells} (h : B (startD N ds) S = .rt d S1) (hr : resv S.length S1 d = some (.lst l)) : bodyD N B ds S = .ok (.lst l) (S1.take S.length) := by
  unfold bodyD
  rw [h]
  show retD S.length S1 (resv S.length S1 d) = _
  rw [hr]
  rfl
theorem list_ok {nb k : Nat} {many wide : Int} (hb : Bag S nb k) (hk : k ≤ 100000) (hm : many = 3 ∨ many = 9) (hw : wide = 12 ∨ wide = 40) :
    ∃ (l : List P) (S' : Cells), g__law_list [.ref nb, .int many, .int wide] S = .ok (.lst (l.map encP)) S' ∧ Nice l ∧ Bag S' nb (k + 200) ∧ Mv S S' [nb] := by
  have zz := z24
  have hl := hb.lt
  obtain ⟨v, S1, e1, v0, v1, bag1, mv1⟩ := pick_ok hb (by omega) (m := many) (by omega) (by omega)
  let j : Nat := (2 + v).toNat
  have hj : ((j : Nat) : Int) = 2 + v := by show (((2 + v).toNat : Nat) : Int) = _; omega
  have hj2 : j ≤ 10 := by omega
  have ej : range1 [.int (2 + v)] = some ((List.range j).map fun i => D.int (i : Nat)) := by rw [← hj]; exact range1_ok (by omega)
  obtain ⟨ds, S2, e2, q2, n2, bag2, mv2⟩ := comp_J (p := .nm 7) (ρ := wipeD (startD 8 [.ref nb, .int many, .int wide]) [7]) (fe := fun ρ => (callE 2 g__law_pick (consM (rd ρ 0) (consM (rd ρ 2) nilA)))) (fun i S' => Bag S' nb (k + 1 + i) ∧ Mv S S' [nb]) (fun d => ∃ v, d = .int v ∧ 0 ≤ v ∧ v < wide) 10
    ((List.range j).map fun i => D.int (i : Nat)) 0 S1 (by rw [List.length_map, List.length_range]; omega) ⟨bag1, mv1⟩ fun d _ i S' hi ⟨b, mv⟩ => by
      obtain ⟨u, S'', e, u0, u1, b', mv'⟩ := pick_ok b (by omega) (m := wide) (by omega) (by omega)
      exact ⟨_, _, _, rfl, call_ok rfl e, ⟨u, rfl, u0, u1⟩, b'.mono (by omega), mv.trans mv'⟩
  rw [List.length_map, List.length_range] at n2 bag2
  obtain ⟨ns, rfl, qn⟩ := ints_of ds wide q2
  rw [List.length_map] at n2
  have mem := DL.setSort_mem ns
  have srt := DL.setSort_sorted ns
  have zl := DL.setSort_len ns
  obtain ⟨m, ms, em⟩ : ∃ m ms, setSort ns = m :: ms := by
    cases q : setSort ns with
    | nil =>
      cases ns with
      | nil => simp at n2; omega
      | cons x r =>
        have := (mem x).mpr List.mem_cons_self
        rw [q] at this
        simp at this
    | cons m ms => exact ⟨m, ms, rfl⟩
  have esort : setSortD (.lst (ns.map .int)) S2 = some ((m :: ms).map .int) := by
    unfold setSortD
    show (match (some (ns.map D.int)).bind ints? with
      | some ns => if ns.length + 1 < scanBound then some ((setSort ns).map D.int) else none
      | none => none) = _
    have : (some (ns.map D.int)).bind ints? = some ns := ints?_map ns
    rw [this]
    show (if ns.length + 1 < scanBound then some ((setSort ns).map D.int) else none) = _
    rw [if_pos (Nat.lt_of_lt_of_le (by omega : ns.length + 1 < 20) (by decide)), em]
  rw [em] at mem srt zl
  rw [List.length_cons] at zl
  have inb : ∀ a ∈ m :: ms, 0 ≤ a ∧ a < 1000 := fun a ha => by
    have := qn a ((mem a).mp ha)
    omega
  -- found = []
  let S3 : Cells := S2 ++ [⟨true, .lst (([] : List P).map encP)⟩]
  have l2 : S2.length = S.length := mv2.1
  have b3 : Bag S3 nb (k + 11) := bag_app (bag2.mono (by omega))
  have g3 : S3[S2.length]? = some ⟨true, .lst (([] : List P).map encP)⟩ := get_new
  obtain ⟨F, S4, y5, y6, e4, nice, g4, b4, mv4⟩ := list_loop nb S2.length (some (.int many)) (some (.int wide)) (some (.lst ((m :: ms).map .int))) none (by omega) ms m [] S3 (k + 11) none none srt (inb m List.mem_cons_self).1 (fun a ha => (inb a ha).2) b3 g3 Valid.nil (fun a ha => by simp [MS.reads] at ha) (by simp; omega) (by omega)
  obtain ⟨w, S5, e5, w0, w1, b5, mv5⟩ := pick_ok b4 (by omega) (m := 3) (by decide) (by decide)
  have g5 : S5[S2.length]? = some ⟨true, .lst (F.map encP)⟩ := by rw [mv5.2 _ (by simp; omega)]; exact g4
  have l3 : S3.length = S.length + 1 := by show (S2 ++ _).length = _; rw [List.length_append, List.length_singleton, l2]
  have l5 : S5.length = S.length + 1 := by rw [mv5.1, mv4.1, l3]
  have mvS : ∀ {S' : Cells} {ns : List Nat}, Mv S3 S' ns → (∀ j ∈ ns, j = nb ∨ S.length ≤ j) → Mv S (S'.take S.length) [nb] := fun {S' ns} h hn => by
    have h1 : Mv S2 (S3.take S.length) [nb] := by
      show Mv S2 ((S2 ++ _).take S.length) _
      rw [← l2, take_more]
      exact Mv.refl _ _
    exact (mv2.trans h1).trans (take_of_mv (by omega) h nb hn)
  have e4' : forD (.tp [.nm 5, .nm 6]) L1__law_list (pairsD ((m :: ms).map D.int) (cutD ((m :: ms).map D.int) (some 1) none)) [some (.ref nb), some (.int many), some (.int wide), some (.lst ((m :: ms).map .int)), some (.ref S2.length), none, none, none] S3 = .nx [some (.ref nb), some (.int many), some (.int wide), some (.lst ((m :: ms).map .int)), some (.ref S2.length), y5, y6, none] S4 := by
    rw [cut1]
    exact e4
  by_cases hw0 : w = 0
  · obtain ⟨u, S6, e6, u0, u1, b6, mv6⟩ := pick_ok b5 (by omega) (m := 2) (by decide) (by decide)
    let F' : List P := if u = 0 then sortP F else (sortP F).reverse
    have pF : F'.Perm F := by
      show (if u = 0 then _ else _ : List P).Perm F
      split
      · exact sortP_perm F
      · exact (List.reverse_perm _).trans (sortP_perm F)
    have es : sliceStepD (.lst ((sortP F).map encP)) (if u = 0 then .int 1 else .int (-1)) S6 = some (F'.map encP) := by
      show sliceStepD _ (if u = 0 then _ else _) S6 = some ((if u = 0 then sortP F else (sortP F).reverse).map encP)
      by_cases hu : u = 0
      · rw [if_pos hu, if_pos hu]
        rfl
      · rw [if_neg hu, if_neg hu, List.map_reverse]
        rfl
    have l6 : S6.length = S.length + 1 := by rw [mv6.1, l5]
    refine ⟨F', _, bodyD_of (S1 := S6 ++ [⟨true, .lst (F'.map encP)⟩]) (d := .ref S6.length) (sq_nx (set_ok (frz_ok (bd_ok (frz_ok (lc_mk (itR1_ok (cons_ok (b2_ok rfl (call_ok rfl e1) rfl) rfl) ej) e2)) (op_ok esort)))) (sq_nx (set_ok (cel_ok (lst_ok rfl (Nat.zero_le _)) rfl)) (sq_nx (for_ok (itZ_ok (cons_ok rfl (cons_ok (bd_ok rfl (bd_ok rfl (bd_ok rfl (op_ok rfl)))) rfl))) e4') (sq_rt (if_t (b2T_ok (z := true) (call_ok rfl e5) rfl ?_)
      (sq_nx (set_ok (cel_ok (bd_ok (frz_ok (cbL_ok rfl (sortD_ref g5))) (bd_ok (b2_ok (frz_ok (lst_ok rfl (show 2 ≤ sizeLine by decide))) (call_ok rfl e6) (pick2 (S := S6) (ds := []) u0 u1)) (op_ok es))) (flatL_ps _))) (ret_ok rfl))))))) ?_, nice.perm pF.symm, ?_, ?_⟩
    · rw [dEq_int, decide_eq_true hw0]
    · unfold resv
      rw [if_neg (by omega), get_new]
    · exact (bag_take (bag_app b6) (by omega)).mono (by omega)
    · rw [List.take_append_of_le_length (by omega)]
      exact mvS (mv4.trans ((mv5.trans mv6).more (by simp))) (by simp; omega)
  · have z0 : S2.length = S.length := l2
    have bf : Bag (S5.set S2.length ⟨false, .lst (F.map encP)⟩) nb (k + 11 + 2 * ms.length + 1) := b5.mv (Mv.set _ (ns := [S2.length]) (by simp)) (by simp; omega)
    obtain ⟨F', S6, e6, pF, b6, mv6⟩ := mixed_ok F bf (by have := nice.z; omega) (by have := nice.z; omega)
    have hl6 : (S5.set S2.length ⟨false, .lst (F.map encP)⟩).length = S.length + 1 := by rw [List.length_set, l5]
    refine ⟨F', _, body_rt' (S1 := S6) (d := .lst (F'.map encP)) (sq_nx (set_ok (frz_ok (bd_ok (frz_ok (lc_mk (itR1_ok (cons_ok (b2_ok rfl (call_ok rfl e1) rfl) rfl) ej) e2)) (op_ok esort)))) (sq_nx (set_ok (cel_ok (lst_ok rfl (Nat.zero_le _)) rfl)) (sq_nx (for_ok (itZ_ok (cons_ok rfl (cons_ok (bd_ok rfl (bd_ok rfl (bd_ok rfl (op_ok rfl)))) rfl))) e4') (sq_nx (if_f (b2T_ok (z := false) (call_ok rfl e5) rfl ?_) rfl)
      (ret_ok (call_ok (cons_ok rfl (cons_ok (bd_ok rfl (fz_ref g5)) rfl)) e6)))))) (flat_ps _), nice.perm pF.symm, (bag_take b6 (by omega)).mono (by have := nice.z; omega), ?_⟩
    · rw [dEq_int, decide_eq_false hw0]
    · refine mvS (mv4.trans ((mv5.more (by simp)).trans (Mv.trans (Mv.set (n := S2.length) _ (by simp)) (mv6.more (by simp))))) (by simp; omega)
end
end K04
end
section
set_option maxHeartbeats 4000000
/-! DLo: lists of numbers compared, searched; numbers written; places of addresses. -/
namespace DL
open PySem PySem.Spec L2
open PyProof.Rows hiding St
section
variable {S S1 : Cells}
theorem toPyI (l : List Int) : toPyL (l.map D.int) = some (l.map PyData.int) := by
  induction l with
  | nil => rfl
  | cons p l ih =>
    show (match toPy (.int p), toPyL (l.map D.int) with
      | some e, some es => some (e :: es)
      | _, _ => none) = _
    rw [ih]
    rfl
theorem flatL_is (l : List Int) : flatL (l.map D.int) = true := by
  unfold flatL
  rw [List.all_map, List.all_eq_true]
  exact fun p _ => by simp
theorem flat_is (l : List Int) : (D.lst (l.map D.int)).flat = true := by rw [flat_lst, flatL_is]
theorem lay_is (l : List Int) : PyData.canLayAll0 (l.map PyData.int) = true := by
  induction l with
  | nil => rfl
  | cons p l ih =>
    show (true && PyData.canLayAll0 (l.map PyData.int)) = true
    rw [ih]
    rfl
theorem depth_is (l : List Int) : PyData.depthAll (l.map PyData.int) = 0 := by
  induction l with
  | nil => rfl
  | cons p l ih =>
    show max 0 (PyData.depthAll (l.map PyData.int)) = 0
    rw [ih]
    rfl
theorem shaped_is (l : List Int) : SeqAt.shaped (.list (l.map PyData.int)) = true := by
  show (PyData.canLayAll0 (l.map PyData.int) && decide (PyData.depthAll (l.map PyData.int) + 1 ≤ 64)) = true
  rw [lay_is, depth_is]
  rfl
theorem eqv_is : ∀ (l m : List Int), PyData.eqvAll (l.map PyData.int) (m.map PyData.int) = decide (l = m)
  | [], [] => rfl
  | [], _ :: _ => rfl
  | _ :: _, [] => rfl
  | p :: l, q :: m => by
    show ((p == q) && PyData.eqvAll (l.map PyData.int) (m.map PyData.int)) = _
    rw [eqv_is l m, Bool.eq_iff_iff]
    simp
theorem vw_is (l : List Int) : vw S (.lst (l.map D.int)) = some (.list (l.map PyData.int)) := by
  unfold vw
  rw [resv_flat _ _ _ (flat_is l)]
  show (match toPyL (l.map D.int) with
    | some m => some (PyData.list m)
    | none => none) = _
  rw [toPyI]
theorem dNe_is (l m : List Int) : dNe (.lst (l.map .int)) (.lst (m.map .int)) S = some (.bl (!decide (l = m))) := by
  show (eqP _ _ S).map (fun b => D.bl (!b)) = _
  rw [eqP_of (vw_is l) (vw_is m) (shaped_is l) (shaped_is m)]
  show some (D.bl (!PyData.eqvAll _ _)) = _
  rw [eqv_is]
theorem inP_is (l : List Int) (a : Int) : inP (.int a) (.lst (l.map .int)) S = some (decide (a ∈ l)) := by
  unfold inP
  rw [vw_is]
  show (if SeqAt.shaped (.int a) = true ∧ SeqAt.shaped (.list (l.map PyData.int)) = true then some ((l.map PyData.int).any fun z => PyData.eqv z (.int a)) else none) = _
  rw [if_pos ⟨rfl, shaped_is l⟩, List.any_map]
  congr 1
  rw [Bool.eq_iff_iff]
  simp only [List.any_eq_true, Function.comp, decide_eq_true_eq]
  constructor
  · rintro ⟨x, hx, e⟩
    have e : (x == a) = true := e
    rw [beq_iff_eq] at e
    exact e ▸ hx
  · intro h
    exact ⟨a, h, by show (a == a) = true; simp⟩
theorem dIn_is (l : List Int) (a : Int) : dIn (.int a) (.lst (l.map .int)) S = some (.bl (decide (a ∈ l))) := by
  unfold dIn
  rw [inP_is]
  rfl
theorem dNotIn_is (l : List Int) (a : Int) : dNotIn (.int a) (.lst (l.map .int)) S = some (.bl (!decide (a ∈ l))) := by
  unfold dNotIn
  rw [inP_is]
  rfl
theorem mIndex_is {l : List Int} {a : Int} {j : Nat} (h : l.findIdx? (· == a) = some j) : mIndex (.lst (l.map .int)) [.int a] S = some (.int (j : Nat), S) := by
  unfold mIndex
  have e : ixOf (.lst (l.map .int)) (.int a) S = some j := by
    unfold ixOf
    rw [vw_is]
    show (if SeqAt.shaped (.list (l.map PyData.int)) = true ∧ SeqAt.shaped (.int a) = true then (l.map PyData.int).findIdx? (fun z => PyData.eqv z (.int a)) else none) = _
    rw [if_pos ⟨shaped_is l, rfl⟩, List.findIdx?_map]
    exact h
  show (ixOf (.lst (l.map .int)) (.int a) S).map _ = _
  rw [e]
  rfl
theorem repr_int {i : Int} (h : logOk i) : reprD [.int i] S = some (.str (toString i)) := by
  have z : (toString i : Str).length ≤ sizeLine := Nat.le_trans (PyProof.Rows.int_text_len_1921 h) (by decide)
  show (if i.natAbs.log2 < 1920 ∧ (toString i : Str).length ≤ sizeLine then some (D.str (toString i)) else none) = _
  exact if_pos ⟨h, z⟩
theorem repr_non : reprD [.non] S = some (.str "None") := rfl
theorem chT_ok {op op' : D → D → Cells → Option D} {a b c : M D} {x y z : D} {k k2 : Bool} (h1 : a S = .ok x S) (h2 : b S = .ok y S) (h3 : op x y S = some (.bl k)) (h4 : c S = .ok z S) (h5 : op' y z S = some (.bl k2)) : chT op op' a b c S = .ok (k && k2) S := by
  refine bd_ok (a := .bl (k && k2)) (S1 := S) ?_ (op_ok rfl)
  refine bd_ok h1 (bd_ok h2 (bd_ok (a := k) (op_ok (by show (op x y S).bind asB = _; rw [h3]; rfl)) ?_))
  cases k with
  | true => exact bd_ok h4 (op_ok (by simpa using h5))
  | false => rfl
end
end DL
namespace MS
/-- the place of an address in a scan -/
theorem rng_place (p : P) (a : Int) : (rng p).findIdx? (· == a) = if a ∈ rng p then some (dist a p.1).toNat else none := by
  by_cases h : a ∈ rng p
  · rw [if_pos h]
    have hl := rng_len p
    have hm := mem_rng.mp h
    obtain ⟨x, y⟩ := p
    simp only at hm hl ⊢
    have hd : (dist a x).toNat < (rng (x, y)).length := by
      have : dist a x ≤ dist y x := by unfold dist; split <;> split <;> omega
      have : 0 ≤ dist a x := by unfold dist; split <;> omega
      omega
    have key : ∀ j (hj : j < (rng (x, y)).length), (rng (x, y))[j] = if x ≤ y then x + (j : Nat) else x - (j : Nat) := fun j hj => by
      unfold rng
      split <;> simp
    rw [List.findIdx?_eq_some_iff_getElem]
    refine ⟨hd, ?_, fun j hj => ?_⟩
    · rw [key _ hd]
      simp only [beq_iff_eq]
      unfold dist
      split <;> split <;> omega
    · rw [key j (by omega)]
      simp only [beq_iff_eq]
      unfold dist at hj
      split at hj <;> split <;> omega
  · rw [if_neg h, List.findIdx?_eq_none_iff]
    intro x hx
    simp only [beq_eq_false_iff_ne, ne_eq]
    exact fun e => h (e ▸ hx)
def place (l : List P) (a : Int) : Option Nat := (reads l).findIdx? (· == a)
theorem place_cons (p : P) (l : List P) (a : Int) : place (p :: l) a = if a ∈ rng p then some (dist a p.1).toNat else (place l a).map (· + (rng p).length) := by
  unfold place
  show (rng p ++ reads l).findIdx? _ = _
  rw [List.findIdx?_append, rng_place]
  split <;> rfl
theorem place_none {l : List P} {a : Int} : place l a = none ↔ a ∉ reads l := by
  unfold place
  rw [List.findIdx?_eq_none_iff]
  constructor
  · intro h ha
    have := h a ha
    simp at this
  · intro h x hx
    simp only [beq_eq_false_iff_ne, ne_eq]
    exact fun e => h (e ▸ hx)
/-- the k-th address of a scan -/
theorem rng_get {p : P} {k : Nat} (h : k < (rng p).length) : (rng p)[k]? = some (p.1 + (if p.1 ≤ p.2 then 1 else -1) * (k : Nat)) := by
  rw [List.getElem?_eq_getElem h]
  congr 1
  obtain ⟨x, y⟩ := p
  simp only
  unfold rng
  split <;> simp <;> omega
end MS
end
section
set_option maxHeartbeats 0
/-! MCut: first addresses of tidy lists, intervals left out. No program in sight. -/
namespace MS
/-- neighbours do not touch -/
def Tidy : List P → Prop
  | [] => True
  | [_] => True
  | p :: q :: l => touch p.2 q.1 = false ∧ Tidy (q :: l)
theorem Tidy.tail {p : P} {l : List P} (h : Tidy (p :: l)) : Tidy l := by
  cases l with
  | nil => trivial
  | cons q l => exact h.2
theorem tidy_tid : ∀ {l : List P}, Tidy l → tid l = l
  | [], _ => rfl
  | [p], _ => rfl
  | p :: q :: l, h => by
    rw [tid_cons, tidy_tid h.2]
    show (if touch p.2 q.1 = true then _ else _) = _
    rw [h.1]
    rfl
theorem tidy_cns {p : P} {l : List P} (h : Tidy l) : Tidy (cns p l) := by
  cases l with
  | nil => trivial
  | cons q l =>
    show Tidy (if touch p.2 q.1 = true then (p.1, q.2) :: l else p :: q :: l)
    split
    · cases l with
      | nil => trivial
      | cons r l => exact h
    · rename_i ht
      exact ⟨by simpa using ht, h⟩
theorem tid_tidy (l : List P) : Tidy (tid l) := by
  induction l with
  | nil => trivial
  | cons p l ih =>
    rw [tid_cons]
    exact tidy_cns ih
/-- the first addresses -/
def beg : List P → Int → List P
  | [], _ => []
  | p :: l, n => if 0 < n then (p.1, p.1 + (if p.1 ≤ p.2 then 1 else -1) * ((if dist p.2 p.1 + 1 < n then dist p.2 p.1 + 1 else n) - 1)) :: beg l (n - (dist p.2 p.1 + 1)) else beg l n
theorem beg_zero : ∀ (l : List P) (n : Int), n ≤ 0 → beg l n = []
  | [], _, _ => rfl
  | p :: l, n, h => by
    unfold beg
    rw [if_neg (by omega), beg_zero l n h]
theorem whole (p : P) : (p.1, p.1 + (if p.1 ≤ p.2 then 1 else -1) * (dist p.2 p.1 + 1 - 1)) = p := by
  obtain ⟨a, b⟩ := p
  simp only
  congr 1
  unfold dist
  split <;> split <;> omega
theorem rng_take {p : P} {n : Int} (h : 0 < n) (h2 : n ≤ dist p.2 p.1 + 1) : rng (p.1, p.1 + (if p.1 ≤ p.2 then 1 else -1) * (n - 1)) = (rng p).take n.toNat := by
  obtain ⟨a, b⟩ := p
  simp only at h2 ⊢
  by_cases c : a ≤ b
  · rw [if_pos c]
    have hn : n ≤ b - a + 1 := by unfold dist at h2; split at h2 <;> omega
    unfold rng
    rw [if_pos (show a ≤ a + 1 * (n - 1) by omega), if_pos (show a ≤ b from c), ← List.map_take, List.take_range]
    simp only
    rw [show (a + 1 * (n - 1) - a + 1).toNat = min n.toNat (b - a + 1).toNat by omega]
  · rw [if_neg c]
    have hn : n ≤ a - b + 1 := by unfold dist at h2; split at h2 <;> omega
    by_cases c1 : n = 1
    · subst c1
      rw [show a + -1 * (1 - 1) = a by omega, rng_one, rng_dn (by omega)]
      rfl
    · unfold rng
      rw [if_neg (show ¬ a ≤ a + -1 * (n - 1) by omega), if_neg (show ¬ a ≤ b from c), ← List.map_take, List.take_range]
      simp only
      rw [show (a - (a + -1 * (n - 1)) + 1).toNat = min n.toNat (a - b + 1).toNat by omega]
theorem dist_nn (a b : Int) : 0 ≤ dist a b := by unfold dist; split <;> omega
theorem reads_beg : ∀ (l : List P) (n : Int), 0 ≤ n → reads (beg l n) = (reads l).take n.toNat
  | [], n, _ => by simp [beg, reads]
  | p :: l, n, h => by
    have hl := rng_len p
    have hd := dist_nn p.2 p.1
    have e0 : reads (p :: l) = rng p ++ reads l := rfl
    unfold beg
    by_cases c : 0 < n
    · rw [if_pos c]
      by_cases c2 : dist p.2 p.1 + 1 < n
      · rw [if_pos c2, whole]
        show rng p ++ reads (beg l _) = _
        rw [reads_beg l _ (by omega), e0, List.take_append, List.take_of_length_le (l := rng p) (by omega)]
        congr 2
        omega
      · rw [if_neg c2, beg_zero l _ (by omega)]
        show reads [_] = _
        rw [reads_one, rng_take c (by omega), e0, List.take_append_of_le_length (by omega)]
    · rw [if_neg c, beg_zero l n (by omega), show n.toNat = 0 by omega]
      rfl
theorem beg_tidy : ∀ (l : List P) (n : Int), Tidy l → Tidy (beg l n) ∧ ∀ q r, beg l n = q :: r → ∃ p m, l = p :: m ∧ q.1 = p.1
  | [], n, _ => ⟨trivial, fun q r e => by cases e⟩
  | p :: l, n, h => by
    obtain ⟨h1, h2⟩ := beg_tidy l (n - (dist p.2 p.1 + 1)) h.tail
    by_cases c : 0 < n
    · have eb : beg (p :: l) n = (p.1, p.1 + (if p.1 ≤ p.2 then 1 else -1) * ((if dist p.2 p.1 + 1 < n then dist p.2 p.1 + 1 else n) - 1)) :: beg l (n - (dist p.2 p.1 + 1)) := by
        show (if 0 < n then _ else _) = _
        rw [if_pos c]
      rw [eb]
      refine ⟨?_, fun q r e => by cases e; exact ⟨p, l, rfl, rfl⟩⟩
      by_cases c2 : dist p.2 p.1 + 1 < n
      · rw [if_pos c2, whole]
        cases e : beg l (n - (dist p.2 p.1 + 1)) with
        | nil => trivial
        | cons q r =>
          obtain ⟨p2, m, e1, e2⟩ := h2 q r e
          subst e1
          rw [e] at h1
          exact ⟨by rw [e2]; exact h.1, h1⟩
      · rw [if_neg c2, beg_zero l _ (by omega)]
        trivial
    · rw [beg_zero _ _ (by omega)]
      exact ⟨trivial, fun q r e => by cases e⟩
/-- the first addresses of a tidy list, tidy -/
theorem beg_law {l : List P} (h : (reads l).Nodup) {n : Int} (hn : 0 ≤ n) : tid (((reads l).take n.toNat).map diag) = beg (tid l) n := by
  rw [← reads_tid h, ← reads_beg _ _ hn, tid_reads]
  exact tidy_tid (beg_tidy _ _ (tid_tidy l)).1
/-! ### left out -/
def rif (a b : Int) : List Int := if a ≤ b then rng (a, b) else []
def outB (lo hi : Int) (a : Int) : Bool := !(decide (lo ≤ a) && decide (a ≤ hi))
theorem rif_cons {a b : Int} (h : a ≤ b) : rif a b = a :: rif (a + 1) b := by
  unfold rif
  rw [if_pos h, rng_up h]
theorem rif_nil {a b : Int} (h : b < a) : rif a b = [] := by
  unfold rif
  rw [if_neg (by omega)]
theorem filt_up (lo hi y : Int) (hh : lo ≤ hi) : ∀ (n : Nat) (x : Int), (y - x + 1).toNat = n → (rif x y).filter (outB lo hi) = rif x (min (lo - 1) y) ++ rif (max (hi + 1) x) y
  | 0, x, hn => by
    rw [rif_nil (by omega), rif_nil (by omega), rif_nil (by omega)]
    rfl
  | n + 1, x, hn => by
    have ih := filt_up lo hi y hh n (x + 1) (by omega)
    rw [rif_cons (show x ≤ y by omega)]
    unfold outB at ih ⊢
    by_cases c1 : x < lo
    · rw [List.filter_cons_of_pos (by simp; omega), ih, rif_cons (show x ≤ min (lo - 1) y by omega), show max (hi + 1) (x + 1) = max (hi + 1) x by omega]
      rfl
    · by_cases c2 : x ≤ hi
      · rw [List.filter_cons_of_neg (by simp; omega), ih, rif_nil (show min (lo - 1) y < x + 1 by omega), rif_nil (show min (lo - 1) y < x by omega), show max (hi + 1) (x + 1) = max (hi + 1) x by omega]
      · rw [List.filter_cons_of_pos (by simp; omega), ih, rif_nil (show min (lo - 1) y < x + 1 by omega), rif_nil (show min (lo - 1) y < x by omega), show max (hi + 1) (x + 1) = x + 1 by omega, show max (hi + 1) x = x by omega, List.nil_append, List.nil_append, rif_cons (show x ≤ y by omega)]
/-- what a scan and an interval have in common -/
def com (p : P) (low high : Int) : Option P :=
  let lo := if p.2 < p.1 then p.2 else p.1
  let hi := if p.1 < p.2 then p.2 else p.1
  let b := if lo > low then lo else low
  let t := if hi < high then hi else high
  if t < b then none else some (if p.1 ≤ p.2 then (b, t) else (t, b))
def opL : Option P → List P
  | some p => [p]
  | none => []
def cut1L (p : P) (lo hi : Int) : List P :=
  let top := if p.1 < p.2 then p.2 else p.1
  if p.2 < p.1 then opL (com p (hi + 1) top) ++ opL (com p 0 (lo - 1)) else opL (com p 0 (lo - 1)) ++ opL (com p (hi + 1) top)
def cutL (l : List P) (lo hi : Int) : List P := l.flatMap fun p => cut1L p lo hi
theorem com_up {x y a b : Int} (h : x ≤ y) : reads (opL (com (x, y) a b)) = rif (max a x) (min b y) := by
  unfold com
  simp only
  rw [if_neg (show ¬ y < x by omega)]
  rw [show (if x < y then y else x) = y by split <;> omega, show (if x > a then x else a) = max a x by split <;> omega, show (if y < b then y else b) = min b y by split <;> omega, if_pos h]
  by_cases c : min b y < max a x
  · rw [if_pos c, rif_nil c]
    rfl
  · rw [if_neg c]
    show reads [_] = _
    rw [reads_one]
    unfold rif
    rw [if_pos (by omega)]
theorem com_dn {x y a b : Int} (h : y < x) : reads (opL (com (x, y) a b)) = (rif (max a y) (min b x)).reverse := by
  unfold com
  simp only
  rw [if_pos h, if_neg (show ¬ x < y by omega)]
  rw [show (if y > a then y else a) = max a y by split <;> omega, show (if x < b then x else b) = min b x by split <;> omega, if_neg (show ¬ x ≤ y by omega)]
  by_cases c : min b x < max a y
  · rw [if_pos c, rif_nil c]
    rfl
  · rw [if_neg c]
    show reads [_] = _
    rw [reads_one]
    unfold rif
    rw [if_pos (by omega), ← rng_rev]
    rfl
theorem reads_cut1 {p : P} {lo hi : Int} (h0 : 0 ≤ p.1 ∧ 0 ≤ p.2) (hh : lo ≤ hi) : reads (cut1L p lo hi) = (rng p).filter (outB lo hi) := by
  obtain ⟨x, y⟩ := p
  simp only at h0
  unfold cut1L
  simp only
  by_cases c : y < x
  · rw [if_pos c, if_neg (show ¬ x < y by omega), reads_app, com_dn c, com_dn c]
    have e : rng (x, y) = (rif y x).reverse := by
      unfold rif
      rw [if_pos (by omega), ← rng_rev]
      rfl
    rw [e, List.filter_reverse, filt_up lo hi x hh _ y rfl, List.reverse_append, show max 0 y = y by omega, show min x x = x by omega]
  · rw [if_neg c, show (if x < y then y else x) = y by split <;> omega, reads_app, com_up (by omega), com_up (by omega)]
    have e : rng (x, y) = rif x y := by
      unfold rif
      rw [if_pos (by omega)]
    rw [e, filt_up lo hi y hh _ x rfl, show max 0 x = x by omega, show min y y = y by omega]
theorem reads_cut : ∀ {l : List P} {lo hi : Int}, (∀ p ∈ l, 0 ≤ p.1 ∧ 0 ≤ p.2) → lo ≤ hi → reads (cutL l lo hi) = (reads l).filter (outB lo hi)
  | [], _, _, _, _ => rfl
  | p :: l, lo, hi, h, hh => by
    have e : cutL (p :: l) lo hi = cut1L p lo hi ++ cutL l lo hi := rfl
    have e2 : reads (p :: l) = rng p ++ reads l := rfl
    rw [e, reads_app, reads_cut1 (h p List.mem_cons_self) hh, reads_cut (fun q hq => h q (List.mem_cons_of_mem _ hq)) hh, e2, List.filter_append]
/-- the ends of what is joined are ends -/
theorem tid_all {A B : Int → Prop} {m : List P} (h : ∀ p ∈ m, A p.1 ∧ B p.2) : ∀ p ∈ tid m, A p.1 ∧ B p.2 := by
  have key : ∀ (m acc : List P), (∀ p ∈ acc, A p.1 ∧ B p.2) → (∀ p ∈ m, A p.1 ∧ B p.2) → ∀ p ∈ m.foldl stp acc, A p.1 ∧ B p.2 := by
    intro m
    induction m with
    | nil => exact fun acc ha _ => ha
    | cons q m ih =>
      intro acc ha hm
      rw [List.foldl_cons]
      refine ih _ (fun p hp => ?_) fun p hp => hm p (List.mem_cons_of_mem _ hp)
      have hq := hm q List.mem_cons_self
      rcases List.eq_nil_or_concat acc with e | ⟨l, r, e⟩
      · subst e
        rw [stp_nil, List.mem_singleton] at hp
        subst hp
        exact hq
      · rw [List.concat_eq_append] at e
        subst e
        rw [stp_snoc] at hp
        have hr := ha r (by simp)
        split at hp
        · rcases List.mem_append.mp hp with hp | hp
          · exact ha p (List.mem_append_left _ hp)
          · rw [List.mem_singleton] at hp
            subst hp
            exact ⟨hr.1, hq.2⟩
        · rcases List.mem_append.mp hp with hp | hp
          · exact ha p (List.mem_append_left _ hp)
          · rcases List.mem_cons.mp hp with e | hp
            · subst e
              exact hr
            · rw [List.mem_singleton] at hp
              subst hp
              exact hq
  exact key m [] (fun p hp => by simp at hp) h
theorem com_in {p q : P} {a b : Int} {n : Int} (h0 : 0 ≤ p.1 ∧ 0 ≤ p.2) (h1 : p.1 < n ∧ p.2 < n) (h : com p a b = some q) : (0 ≤ q.1 ∧ 0 ≤ q.2) ∧ q.1 < n ∧ q.2 < n := by
  obtain ⟨lo, elo⟩ : ∃ x, x = (if p.2 < p.1 then p.2 else p.1) := ⟨_, rfl⟩
  obtain ⟨hi, ehi⟩ : ∃ x, x = (if p.1 < p.2 then p.2 else p.1) := ⟨_, rfl⟩
  obtain ⟨bb, ebb⟩ : ∃ x, x = (if lo > a then lo else a) := ⟨_, rfl⟩
  obtain ⟨tt, ett⟩ : ∃ x, x = (if hi < b then hi else b) := ⟨_, rfl⟩
  have h : (if tt < bb then none else some (if p.1 ≤ p.2 then (bb, tt) else (tt, bb))) = some q := by
    rw [ebb, ett, elo, ehi]
    exact h
  have l0 : 0 ≤ lo := by rw [elo]; split <;> omega
  have l1 : hi < n := by rw [ehi]; split <;> omega
  have l2 : 0 ≤ bb := by rw [ebb]; split <;> omega
  have l3 : tt < n := by rw [ett]; split <;> omega
  by_cases hc : tt < bb
  · rw [if_pos hc] at h
    cases h
  · rw [if_neg hc] at h
    have h := Option.some.inj h
    by_cases hp : p.1 ≤ p.2
    · rw [if_pos hp] at h
      subst h
      exact ⟨⟨l2, by show 0 ≤ tt; omega⟩, by show bb < n; omega, l3⟩
    · rw [if_neg hp] at h
      subst h
      exact ⟨⟨by show 0 ≤ tt; omega, l2⟩, l3, by show bb < n; omega⟩
theorem cut1_in {p : P} {lo hi n : Int} (h0 : 0 ≤ p.1 ∧ 0 ≤ p.2) (h1 : p.1 < n ∧ p.2 < n) : (∀ q ∈ cut1L p lo hi, (0 ≤ q.1 ∧ 0 ≤ q.2) ∧ q.1 < n ∧ q.2 < n) ∧ (cut1L p lo hi).length ≤ 2 := by
  have op : ∀ (o : Option P), (∀ q, o = some q → (0 ≤ q.1 ∧ 0 ≤ q.2) ∧ q.1 < n ∧ q.2 < n) → (∀ q ∈ opL o, (0 ≤ q.1 ∧ 0 ≤ q.2) ∧ q.1 < n ∧ q.2 < n) ∧ (opL o).length ≤ 1 := fun o ho => by
    cases o with
    | none => exact ⟨fun q hq => by simp [opL] at hq, Nat.zero_le _⟩
    | some r => exact ⟨fun q hq => by
        simp [opL] at hq
        exact ho q (by rw [hq]), Nat.le_refl _⟩
  have u := fun a b => op (com p a b) fun q hq => com_in h0 h1 hq
  unfold cut1L
  simp only
  split
  · refine ⟨fun q hq => ?_, ?_⟩
    · rcases List.mem_append.mp hq with hq | hq
      · exact (u _ _).1 q hq
      · exact (u _ _).1 q hq
    · rw [List.length_append]
      exact Nat.add_le_add (u _ _).2 (u _ _).2
  · refine ⟨fun q hq => ?_, ?_⟩
    · rcases List.mem_append.mp hq with hq | hq
      · exact (u _ _).1 q hq
      · exact (u _ _).1 q hq
    · rw [List.length_append]
      exact Nat.add_le_add (u _ _).2 (u _ _).2
theorem cut_in : ∀ {l : List P} {lo hi n : Int}, (∀ p ∈ l, (0 ≤ p.1 ∧ 0 ≤ p.2) ∧ p.1 < n ∧ p.2 < n) → (∀ q ∈ cutL l lo hi, (0 ≤ q.1 ∧ 0 ≤ q.2) ∧ q.1 < n ∧ q.2 < n) ∧ (cutL l lo hi).length ≤ 2 * l.length
  | [], _, _, _, _ => ⟨fun q hq => by simp [cutL] at hq, Nat.zero_le _⟩
  | p :: l, lo, hi, n, h => by
    have e : cutL (p :: l) lo hi = cut1L p lo hi ++ cutL l lo hi := rfl
    obtain ⟨h1, h2⟩ := cut_in (lo := lo) (hi := hi) fun q hq => h q (List.mem_cons_of_mem _ hq)
    obtain ⟨h3, h4⟩ := cut1_in (lo := lo) (hi := hi) (h p List.mem_cons_self).1 (h p List.mem_cons_self).2
    rw [e]
    refine ⟨fun q hq => ?_, by rw [List.length_append, List.length_cons]; omega⟩
    rcases List.mem_append.mp hq with hq | hq
    · exact h3 q hq
    · exact h1 q hq
theorem beg_len : ∀ (l : List P) (n : Int), (beg l n).length ≤ l.length
  | [], _ => Nat.zero_le _
  | p :: l, n => by
    have h1 := beg_len l (n - (dist p.2 p.1 + 1))
    have h2 := beg_len l n
    unfold beg
    split
    · rw [List.length_cons, List.length_cons]
      omega
    · rw [List.length_cons]
      omega
end MS
end
section
set_option maxHeartbeats 4000000
namespace K04
open PySem PySem.Spec L2 DL
open PyProof.Rows hiding St
open MS (P Valid)
structure Big (W : Int) (l : List P) : Prop where
  v : Valid l
  b : ∀ p ∈ l, p.1 < W ∧ p.2 < W
  z : l.length ≤ 300
theorem Big.perm {W : Int} {l m : List P} (h : Big W l) (p : l.Perm m) : Big W m := ⟨h.v.perm p, fun q hq => h.b q (p.mem_iff.mpr hq), by rw [← p.length_eq]; exact h.z⟩
section
variable {S : Cells}
theorem pick_big {n k : Nat} {m : Int} (hb : Bag S n k) (hk : k ≤ 1000000000) (hm : 0 < m) (hdiv : m.natAbs < 2 ^ 8999) :
    ∃ (v : Int) (S' : Cells), g__law_pick [.ref n, .int m] S = .ok (.int v) S' ∧ 0 ≤ v ∧ v < m ∧ Bag S' n (k + 1) ∧ Mv S S' [n] := by
  obtain ⟨a, b, c, hc, h0, h1⟩ := hb
  have g1 := get_set (c' := ⟨true, .lst [.int a, .int b, .int (c + 1)]⟩) hc
  have hmz : dMod_ok (S := S) (i := a) hm = dMod_ok hm := rfl
  have st1 : ∀ ρ : En, rd ρ 0 = rd [some (.ref n)] 0 → stoS (fun ρ => (b2 dAdd (b2 ixD (rd ρ 0) (kon (.int 2))) (kon (.int 1)))) (fun ρ => (rd ρ 0)) (fun ρ => (kon (.int 2))) ρ S = .nx ρ (S.set n ⟨true, .lst [.int a, .int b, .int (c + 1)]⟩) := fun ρ e =>
    sto_ok (b2_ok (b2_ok (by show rd ρ 0 S = _; rw [e]; rfl) rfl (ix_ref hc rfl)) rfl rfl) (by show rd ρ 0 S = _; rw [e]; rfl) rfl (set_ref (j := 2) hc rfl (flat_int _))
  by_cases ha : 0 < a
  · have g2 := get_set (c' := ⟨true, .lst [.int (a / m), .int b, .int (c + 1)]⟩) g1
    refine ⟨a % m, _, body_rt' (S1 := (S.set n ⟨true, .lst [.int a, .int b, .int (c + 1)]⟩).set n ⟨true, .lst [.int (a / m), .int b, .int (c + 1)]⟩) (sq_nx (st1 _ rfl) (sq_rt (if_t (b2T_ok (z := true) (b2_ok rfl rfl (ix_ref g1 rfl)) rfl ?_)
      (sq_nx (set_ok (b2_ok (cb_ok (cons_ok (b2_ok rfl rfl (ix_ref g1 rfl)) rfl) rfl) rfl (dMod_ok hm))) (sq_nx (sto_ok (b2_ok (cb_ok (cons_ok (b2_ok rfl rfl (ix_ref g1 rfl)) rfl) rfl) rfl (dDiv_ok hm hdiv)) rfl rfl (set_ref (j := 0) g1 rfl (flat_int _))) (ret_ok rfl)))))) (by simp),
      Int.emod_nonneg _ (by omega), Int.emod_lt_of_pos _ hm, ?_⟩
    · show some (D.bl (decide (0 < a))) = _
      rw [decide_eq_true ha]
    · rw [List.set_set, List.take_of_length_le (by simp)]
      exact ⟨⟨_, _, _, get_set hc, by omega, by omega⟩, Mv.set _ (by simp)⟩
  · have f1 : 0 ≤ b % 2147483629 ∧ b % 2147483629 < 2147483629 := ⟨Int.emod_nonneg _ (by decide), Int.emod_lt_of_pos _ (by decide)⟩
    generalize b % 2147483629 = r at f1
    have m1 : okMul (b % 2147483629) 48271 = true := okMul_of 31 16 (lt_pow (Int.emod_nonneg _ (by decide)) (Int.emod_lt_of_pos _ (by decide)) (by decide)) (by decide) (by decide)
    have m2 : okMul (c + 1) 69621 = true := okMul_of 40 17 (lt_pow (m := 2000000000) (by omega) (by omega) (by decide)) (by decide) (by decide)
    have m3 : ∀ x : Int, okMul (x % 2147483647) (x % 2147483647) = true := fun x => okMul_of 31 31 (lt_pow (Int.emod_nonneg _ (by decide)) (Int.emod_lt_of_pos _ (by decide)) (by decide)) (lt_pow (Int.emod_nonneg _ (by decide)) (Int.emod_lt_of_pos _ (by decide)) (by decide)) (by decide)
    have m4 : okMul (c + 1) 40692 = true := okMul_of 40 16 (lt_pow (m := 2000000000) (by omega) (by omega) (by decide)) (by decide) (by decide)
    have m5 : ∀ x : Int, okMul (x % 2147483647) 2147483587 = true := fun x => okMul_of 31 31 (lt_pow (Int.emod_nonneg _ (by decide)) (Int.emod_lt_of_pos _ (by decide)) (by decide)) (by decide) (by decide)
    refine ⟨_, _, body_rt' (S1 := S.set n ⟨true, .lst [.int a, .int b, .int (c + 1)]⟩) (sq_nx (st1 _ rfl) (sq_nx (if_f (b2T_ok (z := false) (b2_ok rfl rfl (ix_ref g1 rfl)) rfl ?_) rfl)
      (sq_nx (par_ok (cons_ok (cb_ok (cons_ok (b2_ok rfl rfl (ix_ref g1 rfl)) rfl) rfl) (cons_ok (cb_ok (cons_ok (b2_ok rfl rfl (ix_ref g1 rfl)) rfl) rfl) rfl)))
      (sq_nx (set_ok (b2_ok (cb_ok (cons_ok (b2_ok (b2_ok (b2_ok (b2_ok rfl rfl (dMod_ok (by decide))) rfl (dMul_ok m1)) (b2_ok rfl rfl (dMul_ok m2)) rfl) rfl rfl) rfl) rfl) rfl (dMod_ok (by decide))))
      (sq_nx (set_ok (b2_ok (cb_ok (cons_ok (b2_ok (b2_ok rfl rfl (dMul_ok (m3 _))) (b2_ok rfl rfl (dMul_ok m4)) rfl) rfl) rfl) rfl (dMod_ok (by decide))))
      (ret_ok (b2_ok (cb_ok (cons_ok (b2_ok (b2_ok (b2_ok rfl rfl (dMul_ok (m5 _))) rfl rfl) rfl (dDiv_ok (by decide) (Nat.lt_of_lt_of_le (by decide : (32 : Int).natAbs < 2 ^ 6) (Nat.pow_le_pow_right (by decide) (by decide))))) rfl) rfl) rfl (dMod_ok hm)))))))) (by simp),
      Int.emod_nonneg _ (by omega), Int.emod_lt_of_pos _ hm, ?_⟩
    · show some (D.bl (decide (0 < a))) = _
      rw [decide_eq_false ha]
    · rw [List.take_of_length_le (by simp)]
      exact ⟨⟨_, _, _, get_set hc, by omega, by omega⟩, Mv.set _ (by simp)⟩
theorem list_loopB (W : Int) (nb nf : Nat) (v1 v2 v3 x7 : Option D) (d1 : nb ≠ nf) : ∀ (ms : List Int) (m : Int) (F : List P) (S : Cells) (k : Nat) (x5 x6 : Option D), (m :: ms).Pairwise (· < ·) → 0 ≤ m → (∀ a ∈ m :: ms, a < W) → Bag S nb k → S[nf]? = some ⟨true, .lst (F.map encP)⟩ → Valid F → (∀ a ∈ MS.reads F, a < m) → F.length + ms.length ≤ 300 → k + 2 * ms.length ≤ 1000000 →
    ∃ (F' : List P) (S' : Cells) (y5 y6 : Option D), forD (.tp [.nm 5, .nm 6]) L1__law_list (zipI (m :: ms)) [some (.ref nb), v1, v2, v3, some (.ref nf), x5, x6, x7] S = .nx [some (.ref nb), v1, v2, v3, some (.ref nf), y5, y6, x7] S' ∧ Big W F' ∧ S'[nf]? = some ⟨true, .lst (F'.map encP)⟩ ∧ Bag S' nb (k + 2 * ms.length) ∧ Mv S S' [nb, nf]
  | [], m, F, S, k, x5, x6, hp, h0, hb, bag, gf, hF, hm, hz, hk => by
    refine ⟨F, S, x5, x6, rfl, ⟨hF, fun p hp => ?_, by simp at hz; omega⟩, gf, bag, Mv.refl _ _⟩
    have e1 := hm p.1 (MS.mem_reads.mpr ⟨p, hp, (MS.end_mem p).1⟩)
    have e2 := hm p.2 (MS.mem_reads.mpr ⟨p, hp, (MS.end_mem p).2⟩)
    have := hb m List.mem_cons_self
    omega
  | m2 :: ms, m, F, S, k, x5, x6, hp, h0, hb, bag, gf, hF, hm, hz, hk => by
    rw [List.length_cons] at hz hk
    have hlt : m < m2 := (List.pairwise_cons.mp hp).1 m2 List.mem_cons_self
    have hp2 := (List.pairwise_cons.mp hp).2
    have hb2 : ∀ a ∈ m2 :: ms, a < W := fun a ha => hb a (List.mem_cons_of_mem _ ha)
    obtain ⟨v, S1, e1, c0, c1, bag1, mv1⟩ := pick_ok bag (by omega) (m := 4) (by decide) (by decide)
    have gf1 : S1[nf]? = some ⟨true, .lst (F.map encP)⟩ := by rw [mv1.2 nf (by simp; exact d1.symm)]; exact gf
    rw [zipI_cons]
    by_cases hv : v > 0
    · obtain ⟨u, S2, e2, u0, u1, bag2, mv2⟩ := pick_ok bag1 (by omega) (m := 2) (by decide) (by decide)
      have gf2 : S2[nf]? = some ⟨true, .lst (F.map encP)⟩ := by rw [mv2.2 nf (by simp; exact d1.symm)]; exact gf1
      let p : P := if u = 0 then (m, m2 - 1) else (m2 - 1, m)
      have hp' : p = (m, m2 - 1) ∨ p = (m2 - 1, m) := by
        show (if u = 0 then _ else _) = _ ∨ (if u = 0 then _ else _) = _
        split
        · exact .inl rfl
        · exact .inr rfl
      obtain ⟨w1, w2⟩ := scan_more hF hm h0 hlt hp'
      have ip : ixD (.lst [encP (m, m2 - 1), encP (m2 - 1, m)]) (.int u) S2 = some (encP p) := by
        rw [pick2 (S := S2) (ds := []) u0 u1]
        show some (if u = 0 then encP _ else encP _) = some (encP (if u = 0 then _ else _))
        split <;> rfl
      have ap : mAppend (.ref nf) [encP p] S2 = some (.non, S2.set nf ⟨true, .lst ((F ++ [p]).map encP)⟩) := by
        rw [app_ref gf2 (flat_encP _) (by rw [List.length_map]; have := z24; omega), List.map_append]
        rfl
      obtain ⟨F', S', y5, y6, e, nice, gf', bag', mv'⟩ := list_loopB W nb nf v1 v2 v3 x7 d1 ms m2 (F ++ [p]) (S2.set nf ⟨true, .lst ((F ++ [p]).map encP)⟩) (k + 2) (some (.int m)) (some (.int m2)) hp2 (by omega) hb2 (bag2.mv (Mv.set _ (ns := [nf]) (by simp)) (by simp; exact d1)) (get_set gf2) w1 w2 (by rw [List.length_append, List.length_singleton]; omega) (by omega)
      refine ⟨F', S', y5, y6, for_cons rfl (if_t (b2T_ok (z := true) (call_ok rfl e1) rfl ?_) (exp_ok (mth_ok rfl (ty_ref gf1) (cons_ok (b2_ok (frz_ok (lst_ok rfl (show 2 ≤ sizeLine by decide))) (call_ok rfl e2) ip) rfl) ap))) e, nice, gf', bag'.mono (by rw [List.length_cons]; omega), ?_⟩
      · show some (D.bl (decide (0 < v))) = _
        rw [decide_eq_true hv]
      · exact ((mv1.trans mv2).more (by simp)).trans (Mv.trans (Mv.set (n := nf) _ (by simp)) mv')
    · obtain ⟨F', S', y5, y6, e, nice, gf', bag', mv'⟩ := list_loopB W nb nf v1 v2 v3 x7 d1 ms m2 F S1 (k + 1) (some (.int m)) (some (.int m2)) hp2 (by omega) hb2 bag1 gf1 hF (fun a ha => by have := hm a ha; omega) (by omega) (by omega)
      refine ⟨F', S', y5, y6, for_cons rfl (if_f (b2T_ok (z := false) (call_ok rfl e1) rfl ?_) rfl) e, nice, gf', bag'.mono (by rw [List.length_cons]; omega), (mv1.more (by simp)).trans mv'⟩
      show some (D.bl (decide (0 < v))) = _
      rw [decide_eq_false hv]
theorem list_okB {nb k : Nat} {many wide : Int} (hb : Bag S nb k) (hk : k ≤ 100000) (hm : many = 40 ∨ many = 200) (hw : 0 < wide) (hw2 : wide.natAbs < 2 ^ 8999) :
    ∃ (l : List P) (S' : Cells), g__law_list [.ref nb, .int many, .int wide] S = .ok (.lst (l.map encP)) S' ∧ Big wide l ∧ Bag S' nb (k + 2000) ∧ Mv S S' [nb] := by
  have zz := z24
  have hl := hb.lt
  obtain ⟨v, S1, e1, v0, v1, bag1, mv1⟩ := pick_ok hb (by omega) (m := many) (by omega) (by omega)
  let j : Nat := (2 + v).toNat
  have hj : ((j : Nat) : Int) = 2 + v := by show (((2 + v).toNat : Nat) : Int) = _; omega
  have hj2 : j ≤ 202 := by omega
  have ej : range1 [.int (2 + v)] = some ((List.range j).map fun i => D.int (i : Nat)) := by rw [← hj]; exact range1_ok (by omega)
  obtain ⟨ds, S2, e2, q2, n2, bag2, mv2⟩ := comp_J (p := .nm 7) (ρ := wipeD (startD 8 [.ref nb, .int many, .int wide]) [7]) (fe := fun ρ => (callE 2 g__law_pick (consM (rd ρ 0) (consM (rd ρ 2) nilA)))) (fun i S' => Bag S' nb (k + 1 + i) ∧ Mv S S' [nb]) (fun d => ∃ v, d = .int v ∧ 0 ≤ v ∧ v < wide) 202
    ((List.range j).map fun i => D.int (i : Nat)) 0 S1 (by rw [List.length_map, List.length_range]; omega) ⟨bag1, mv1⟩ fun d _ i S' hi ⟨b, mv⟩ => by
      obtain ⟨u, S'', e, u0, u1, b', mv'⟩ := pick_big b (by omega) (m := wide) hw hw2
      exact ⟨_, _, _, rfl, call_ok rfl e, ⟨u, rfl, u0, u1⟩, b'.mono (by omega), mv.trans mv'⟩
  rw [List.length_map, List.length_range] at n2 bag2
  obtain ⟨ns, rfl, qn⟩ := ints_of ds wide q2
  rw [List.length_map] at n2
  have mem := DL.setSort_mem ns
  have srt := DL.setSort_sorted ns
  have zl := DL.setSort_len ns
  obtain ⟨m, ms, em⟩ : ∃ m ms, setSort ns = m :: ms := by
    cases q : setSort ns with
    | nil =>
      cases ns with
      | nil => simp at n2; omega
      | cons x r =>
        have := (mem x).mpr List.mem_cons_self
        rw [q] at this
        simp at this
    | cons m ms => exact ⟨m, ms, rfl⟩
  have esort : setSortD (.lst (ns.map .int)) S2 = some ((m :: ms).map .int) := by
    unfold setSortD
    show (match (some (ns.map D.int)).bind ints? with
      | some ns => if ns.length + 1 < scanBound then some ((setSort ns).map D.int) else none
      | none => none) = _
    have : (some (ns.map D.int)).bind ints? = some ns := ints?_map ns
    rw [this]
    show (if ns.length + 1 < scanBound then some ((setSort ns).map D.int) else none) = _
    rw [if_pos (Nat.lt_of_lt_of_le (by omega : ns.length + 1 < 300) (by decide)), em]
  rw [em] at mem srt zl
  rw [List.length_cons] at zl
  have inb : ∀ a ∈ m :: ms, 0 ≤ a ∧ a < wide := fun a ha => by
    exact qn a ((mem a).mp ha)
  -- found = []
  let S3 : Cells := S2 ++ [⟨true, .lst (([] : List P).map encP)⟩]
  have l2 : S2.length = S.length := mv2.1
  have b3 : Bag S3 nb (k + 203) := bag_app (bag2.mono (by omega))
  have g3 : S3[S2.length]? = some ⟨true, .lst (([] : List P).map encP)⟩ := get_new
  obtain ⟨F, S4, y5, y6, e4, nice, g4, b4, mv4⟩ := list_loopB wide nb S2.length (some (.int many)) (some (.int wide)) (some (.lst ((m :: ms).map .int))) none (by omega) ms m [] S3 (k + 203) none none srt (inb m List.mem_cons_self).1 (fun a ha => (inb a ha).2) b3 g3 Valid.nil (fun a ha => by simp [MS.reads] at ha) (by simp; omega) (by omega)
  obtain ⟨w, S5, e5, w0, w1, b5, mv5⟩ := pick_ok b4 (by omega) (m := 3) (by decide) (by decide)
  have g5 : S5[S2.length]? = some ⟨true, .lst (F.map encP)⟩ := by rw [mv5.2 _ (by simp; omega)]; exact g4
  have l3 : S3.length = S.length + 1 := by show (S2 ++ _).length = _; rw [List.length_append, List.length_singleton, l2]
  have l5 : S5.length = S.length + 1 := by rw [mv5.1, mv4.1, l3]
  have mvS : ∀ {S' : Cells} {ns : List Nat}, Mv S3 S' ns → (∀ j ∈ ns, j = nb ∨ S.length ≤ j) → Mv S (S'.take S.length) [nb] := fun {S' ns} h hn => by
    have h1 : Mv S2 (S3.take S.length) [nb] := by
      show Mv S2 ((S2 ++ _).take S.length) _
      rw [← l2, take_more]
      exact Mv.refl _ _
    exact (mv2.trans h1).trans (take_of_mv (by omega) h nb hn)
  have e4' : forD (.tp [.nm 5, .nm 6]) L1__law_list (pairsD ((m :: ms).map D.int) (cutD ((m :: ms).map D.int) (some 1) none)) [some (.ref nb), some (.int many), some (.int wide), some (.lst ((m :: ms).map .int)), some (.ref S2.length), none, none, none] S3 = .nx [some (.ref nb), some (.int many), some (.int wide), some (.lst ((m :: ms).map .int)), some (.ref S2.length), y5, y6, none] S4 := by
    rw [cut1]
    exact e4
  by_cases hw0 : w = 0
  · obtain ⟨u, S6, e6, u0, u1, b6, mv6⟩ := pick_ok b5 (by omega) (m := 2) (by decide) (by decide)
    let F' : List P := if u = 0 then sortP F else (sortP F).reverse
    have pF : F'.Perm F := by
      show (if u = 0 then _ else _ : List P).Perm F
      split
      · exact sortP_perm F
      · exact (List.reverse_perm _).trans (sortP_perm F)
    have es : sliceStepD (.lst ((sortP F).map encP)) (if u = 0 then .int 1 else .int (-1)) S6 = some (F'.map encP) := by
      show sliceStepD _ (if u = 0 then _ else _) S6 = some ((if u = 0 then sortP F else (sortP F).reverse).map encP)
      by_cases hu : u = 0
      · rw [if_pos hu, if_pos hu]
        rfl
      · rw [if_neg hu, if_neg hu, List.map_reverse]
        rfl
    have l6 : S6.length = S.length + 1 := by rw [mv6.1, l5]
    refine ⟨F', _, bodyD_of (S1 := S6 ++ [⟨true, .lst (F'.map encP)⟩]) (d := .ref S6.length) (sq_nx (set_ok (frz_ok (bd_ok (frz_ok (lc_mk (itR1_ok (cons_ok (b2_ok rfl (call_ok rfl e1) rfl) rfl) ej) e2)) (op_ok esort)))) (sq_nx (set_ok (cel_ok (lst_ok rfl (Nat.zero_le _)) rfl)) (sq_nx (for_ok (itZ_ok (cons_ok rfl (cons_ok (bd_ok rfl (bd_ok rfl (bd_ok rfl (op_ok rfl)))) rfl))) e4') (sq_rt (if_t (b2T_ok (z := true) (call_ok rfl e5) rfl ?_)
      (sq_nx (set_ok (cel_ok (bd_ok (frz_ok (cbL_ok rfl (sortD_ref g5))) (bd_ok (b2_ok (frz_ok (lst_ok rfl (show 2 ≤ sizeLine by decide))) (call_ok rfl e6) (pick2 (S := S6) (ds := []) u0 u1)) (op_ok es))) (flatL_ps _))) (ret_ok rfl))))))) ?_, nice.perm pF.symm, ?_, ?_⟩
    · rw [dEq_int, decide_eq_true hw0]
    · unfold resv
      rw [if_neg (by omega), get_new]
    · exact (bag_take (bag_app b6) (by omega)).mono (by omega)
    · rw [List.take_append_of_le_length (by omega)]
      exact mvS (mv4.trans ((mv5.trans mv6).more (by simp))) (by simp; omega)
  · have z0 : S2.length = S.length := l2
    have bf : Bag (S5.set S2.length ⟨false, .lst (F.map encP)⟩) nb (k + 203 + 2 * ms.length + 1) := b5.mv (Mv.set _ (ns := [S2.length]) (by simp)) (by simp; omega)
    obtain ⟨F', S6, e6, pF, b6, mv6⟩ := mixed_ok F bf (by have := nice.z; omega) (by have := nice.z; omega)
    have hl6 : (S5.set S2.length ⟨false, .lst (F.map encP)⟩).length = S.length + 1 := by rw [List.length_set, l5]
    refine ⟨F', _, body_rt' (S1 := S6) (d := .lst (F'.map encP)) (sq_nx (set_ok (frz_ok (bd_ok (frz_ok (lc_mk (itR1_ok (cons_ok (b2_ok rfl (call_ok rfl e1) rfl) rfl) ej) e2)) (op_ok esort)))) (sq_nx (set_ok (cel_ok (lst_ok rfl (Nat.zero_le _)) rfl)) (sq_nx (for_ok (itZ_ok (cons_ok rfl (cons_ok (bd_ok rfl (bd_ok rfl (bd_ok rfl (op_ok rfl)))) rfl))) e4') (sq_nx (if_f (b2T_ok (z := false) (call_ok rfl e5) rfl ?_) rfl)
      (ret_ok (call_ok (cons_ok rfl (cons_ok (bd_ok rfl (fz_ref g5)) rfl)) e6)))))) (flat_ps _), nice.perm pF.symm, (bag_take b6 (by omega)).mono (by have := nice.z; omega), ?_⟩
    · rw [dEq_int, decide_eq_false hw0]
    · refine mvS (mv4.trans ((mv5.more (by simp)).trans (Mv.trans (Mv.set (n := S2.length) _ (by simp)) (mv6.more (by simp))))) (by simp; omega)
end
end K04
end
section
set_option maxHeartbeats 4000000
namespace K04
open PySem PySem.Spec L2 DL
open PyProof.Rows hiding St
open MS (P Valid)
/-- all addresses are below -/
def WB : Int := 2582249878086908589655919172003011874329705792829223512830659356540647622016841194629645353280137831435903171972747493376
theorem WB_le : WB ≤ 2 ^ 400 := by decide +kernel
theorem small400 {i : Int} (h0 : 0 ≤ i) (h : i < WB) : i.natAbs < 2 ^ 500000 := Nat.lt_of_lt_of_le (lt_pow (b := 400) h0 h WB_le) (Nat.pow_le_pow_right (by decide) (by decide))
theorem Big.all {W : Int} {l : List P} (h : Big W l) : ∀ p ∈ l, (0 ≤ p.1 ∧ 0 ≤ p.2) ∧ p.1 < W ∧ p.2 < W := fun p hp => ⟨h.v.nn p hp, h.b p hp⟩
theorem Big.mono {W W' : Int} {l : List P} (h : Big W l) (hw : W ≤ W') : Big W' l := ⟨h.v, fun p hp => by have := h.b p hp; omega, h.z⟩
theorem Big.rd {W : Int} {l : List P} (h : Big W l) : ∀ a ∈ MS.reads l, 0 ≤ a ∧ a < W := fun a ha => by
  obtain ⟨p, hp, hr⟩ := MS.mem_reads.mp ha
  have h1 := h.v.nn p hp
  have h2 := h.b p hp
  rcases MS.mem_rng.mp hr with ⟨h3, h4⟩ | ⟨h3, h4⟩ <;> omega
theorem Big.tid {W : Int} {l : List P} (h : Big W l) : Big W (MS.tid l) := by
  refine ⟨h.v.tid, fun p hp => ?_, Nat.le_trans (fold_len l []) (by simpa using h.z)⟩
  have m : ∀ a ∈ MS.rng p, a ∈ MS.reads l := fun a ha => by
    rw [← MS.reads_tid h.v.nd]
    exact MS.mem_reads.mpr ⟨p, hp, ha⟩
  exact ⟨(h.rd _ (m _ (MS.end_mem p).1)).2, (h.rd _ (m _ (MS.end_mem p).2)).2⟩
section
variable {S : Cells}
theorem part_ok (p : P) (b e : Int) (hb : b.natAbs < 2 ^ 500000) (he : (e - 1).natAbs < 2 ^ 500000) : g_scan_part [encP p, .int b, .int e] S = .ok (.tup [.int (p.1 + (if p.1 ≤ p.2 then 1 else -1) * b), .int (p.1 + (if p.1 ≤ p.2 then 1 else -1) * (e - 1))]) S := by
  have st : setS 3 (fun ρ => (ifE (b2T dLe (b2 ixD (rd ρ 0) (kon (.int 0))) (b2 ixD (rd ρ 0) (kon (.int 1)))) (kon (.int 1)) (b1 dNeg (kon (.int 1))))) (startD 4 [encP p, .int b, .int e]) S = .nx [some (encP p), some (.int b), some (.int e), some (.int (if p.1 ≤ p.2 then 1 else -1))] S := by
    by_cases hc : p.1 ≤ p.2
    · rw [if_pos hc]
      exact set_ok (d := .int 1) (ifE_t (b2T_ok (z := true) (b2_ok rfl rfl rfl) (b2_ok rfl rfl rfl) (show some (D.bl (decide (p.1 ≤ p.2))) = _ by rw [decide_eq_true hc])) rfl)
    · rw [if_neg hc]
      exact set_ok (d := .int (-1)) (ifE_f (b2T_ok (z := false) (b2_ok rfl rfl rfl) (b2_ok rfl rfl rfl) (show some (D.bl (decide (p.1 ≤ p.2))) = _ by rw [decide_eq_false hc])) rfl)
  have so : (if p.1 ≤ p.2 then (1 : Int) else -1).natAbs < 2 ^ 1 := by split <;> decide
  generalize (if p.1 ≤ p.2 then (1 : Int) else -1) = s at st so
  exact body_rt (S1 := S) (sq_nx st (ret_ok (tup_ok (cons_ok (b2_ok (b2_ok rfl rfl rfl) (b2_ok rfl rfl (dMul_ok (okMul_of 1 500000 so hb (by decide)))) rfl) (cons_ok (b2_ok (b2_ok rfl rfl rfl) (b2_ok rfl (b2_ok rfl rfl rfl) (dMul_ok (okMul_of 1 500000 so he (by decide)))) rfl) rfl)) (show 2 ≤ sizeLine by decide)))) (by rw [flat_tup]; simp [flatL]) take_same
theorem take_set_new {c c' : Cell} : ((S ++ [c]).set S.length c').take S.length = S := by rw [List.set_append_right _ _ (Nat.le_refl _), take_more]
/-! first addresses -/
theorem beg_loop (n : Nat) (v0 v1 : Option D) : ∀ (l acc : List P) (left : Int) (x4 : Option D) (S : Cells), (∀ p ∈ l, (0 ≤ p.1 ∧ 0 ≤ p.2) ∧ p.1 < WB ∧ p.2 < WB) → S[n]? = some ⟨true, .lst (acc.map encP)⟩ → acc.length + l.length < 10000 →
    ∃ y3 y4, forD (.nm 4) L1_beginning (l.map encP) [v0, v1, some (.ref n), some (.int left), x4] S = .nx [v0, v1, some (.ref n), y3, y4] (S.set n ⟨true, .lst ((acc ++ MS.beg l left).map encP)⟩)
  | [], acc, left, x4, S, _, h, _ => ⟨_, x4, by rw [show MS.beg [] left = [] from rfl, List.append_nil, set_same h]; rfl⟩
  | p :: l, acc, left, x4, S, hb, h, hz => by
    rw [List.length_cons] at hz
    have hp := hb p List.mem_cons_self
    by_cases c : 0 < left
    · let e : Int := if MS.dist p.2 p.1 + 1 < left then MS.dist p.2 p.1 + 1 else left
      let q : P := (p.1, p.1 + (if p.1 ≤ p.2 then 1 else -1) * (e - 1))
      have eb : MS.beg (p :: l) left = q :: MS.beg l (left - (MS.dist p.2 p.1 + 1)) := by
        show (if 0 < left then _ else _) = _
        rw [if_pos c]
      have hd := MS.dist_nn p.2 p.1
      have hd2 : MS.dist p.2 p.1 < WB := by unfold MS.dist; split <;> omega
      have he : 0 < e ∧ e ≤ WB := by
        by_cases c2 : MS.dist p.2 p.1 + 1 < left
        · have : e = MS.dist p.2 p.1 + 1 := if_pos c2
          omega
        · have : e = left := if_neg c2
          omega
      have zero : (0 : Int).natAbs < 2 ^ 500000 := Nat.lt_of_lt_of_le (show (0 : Int).natAbs < 2 ^ 20 by decide) (Nat.pow_le_pow_right (by decide) (by decide))
      have part : g_scan_part [encP p, .int 0, .int e] S = .ok (encP q) S := by
        rw [part_ok p 0 e zero (small400 (by omega) (by omega))]
        show _ = DL.R.ok (D.tup [.int p.1, _]) S
        rw [show p.1 + (if p.1 ≤ p.2 then 1 else -1) * (0 : Int) = p.1 by rw [Int.mul_zero]; omega]
      obtain ⟨y3, y4, e2⟩ := beg_loop n v0 v1 l (acc ++ [q]) (left - (MS.dist p.2 p.1 + 1)) (some (encP p)) (S.set n ⟨true, .lst ((acc ++ [q]).map encP)⟩) (fun r hr => hb r (List.mem_cons_of_mem _ hr)) (get_set h) (by rw [List.length_append, List.length_singleton]; omega)
      rw [List.set_set, List.append_assoc] at e2
      rw [eb]
      have ap : mAppend (.ref n) [encP q] S = some (.non, S.set n ⟨true, .lst ((acc ++ [q]).map encP)⟩) := by
        rw [app_ref h (flat_encP _) (by rw [List.length_map]; have := z24; omega), List.map_append]
        rfl
      refine ⟨y3, y4, for_cons rfl (if_t (b2T_ok (z := true) rfl rfl ?_) (sq_nx (exp_ok (mth_ok rfl (ty_ref h) (cons_ok (call_ok (cons_ok rfl (cons_ok rfl (cons_ok (cb_ok (cons_ok rfl (cons_ok (call_ok rfl (size_ok p)) rfl)) rfl) rfl))) part) rfl) ap)) (set_ok (b2_ok rfl (call_ok rfl (size_ok p)) rfl)))) e2⟩
      show some (D.bl (decide (0 < left))) = _
      rw [decide_eq_true c]
    · obtain ⟨y3, y4, e2⟩ := beg_loop n v0 v1 l acc left (some (encP p)) S (fun r hr => hb r (List.mem_cons_of_mem _ hr)) h (by omega)
      have eb : MS.beg (p :: l) left = MS.beg l left := by
        show (if 0 < left then _ else _) = _
        rw [if_neg c]
      rw [eb]
      refine ⟨y3, y4, for_cons rfl (if_f (b2T_ok (z := false) rfl rfl ?_) rfl) e2⟩
      show some (D.bl (decide (0 < left))) = _
      rw [decide_eq_false c]
theorem beginning_ok {l : List P} (many : Int) (hb : ∀ p ∈ l, (0 ≤ p.1 ∧ 0 ≤ p.2) ∧ p.1 < WB ∧ p.2 < WB) (hz : l.length < 10000) : g_beginning [.lst (l.map encP), .int many] S = .ok ((MS.beg l many).map encP) S := by
  obtain ⟨y3, y4, e⟩ := beg_loop S.length (some (.lst (l.map encP))) (some (.int many)) l [] many none (S ++ [⟨true, .lst []⟩]) hb get_new (by simpa using hz)
  have h := bodyL_ref (S := S) (B := B_beginning) (N := 5) (ds := [.lst (l.map encP), .int many]) (l := (MS.beg l many).map encP) (sq_nx (par_ok (cons_ok (cel_ok (lst_ok rfl (Nat.zero_le _)) rfl) (cons_ok rfl rfl))) (sq_nx (for_ok (itS_ok rfl rfl) e) (ret_ok rfl))) (Nat.le_refl _) (get_set get_new)
  rw [take_set_new] at h
  exact h
theorem req_num_ok {a : Int} (h : 0 ≤ a) : g_require_number [.int a, .int 0, .non] S = .ok .non S :=
  body_nx (S1 := S) (if_f (not_ok (b := true) (val_ok (call_ok rfl (in_range_ok h)) rfl)) rfl) take_same
theorem first_ok {l : List P} (h : Big WB l) {many : Int} (hm : 0 ≤ many) : g_first_part [.lst (l.map encP), .int many] S = .ok ((MS.beg (MS.tid l) many).map encP) S :=
  bodyL_new (sq_nx (exp_ok (call_ok rfl (require_ok h.v))) (sq_nx (exp_ok (call_ok rfl (req_num_ok hm))) (ret_ok (cel_ok (callL_ok (cons_ok (frz_ok (callL_ok rfl (tidied_ok l (by have := h.z; omega)))) (cons_ok rfl rfl)) (beginning_ok many h.tid.all (by have := h.tid.z; omega))) (flatL_ps _)))))
/-! what is left out -/
def opP : Option P → D
  | some p => encP p
  | none => .non
theorem flat_opP (o : Option P) : (opP o).flat = true := by
  cases o with
  | none => simp [opP]
  | some p => exact flat_encP p
theorem common_ok (p : P) (a b : Int) : g_common_of [encP p, .int a, .int b] S = .ok (opP (MS.com p a b)) S := by
  let bb : Int := if (mm p).1 > a then (mm p).1 else a
  let tt : Int := if (mm p).2 < b then (mm p).2 else b
  have ec : MS.com p a b = if tt < bb then none else some (if p.1 ≤ p.2 then (bb, tt) else (tt, bb)) := rfl
  have st : parS 3 4 (fun ρ => (consM (cbE dMax2 (consM (rd ρ 1) (consM (cbE dMinL (consM (rd ρ 0) nilA)) nilA))) (consM (cbE dMin2 (consM (rd ρ 2) (consM (cbE dMaxL (consM (rd ρ 0) nilA)) nilA))) nilA))) (startD 5 [encP p, .int a, .int b]) S = .nx [some (encP p), some (.int a), some (.int b), some (.int bb), some (.int tt)] S :=
    par_ok (cons_ok (cb_ok (cons_ok rfl (cons_ok (cb_ok rfl (min_ok p)) rfl)) rfl) (cons_ok (cb_ok (cons_ok rfl (cons_ok (cb_ok rfl (max_ok p)) rfl)) rfl) rfl))
  rw [ec]
  generalize bb = x at st
  generalize tt = y at st
  by_cases c : y < x
  · rw [if_pos c]
    refine body_rt (S1 := S) (sq_nx st (sq_rt (if_t (b2T_ok (z := true) rfl rfl ?_) (ret_ok rfl)))) (flat_opP none) take_same
    show some (D.bl (decide (y < x))) = _
    rw [decide_eq_true c]
  · rw [if_neg c]
    refine body_rt (S1 := S) (sq_nx st (sq_nx (if_f (b2T_ok (z := false) rfl rfl ?_) rfl) (ret_ok ?_))) (flat_opP _) take_same
    · show some (D.bl (decide (y < x))) = _
      rw [decide_eq_false c]
    · by_cases hc : p.1 ≤ p.2
      · rw [if_pos hc]
        exact ifE_t (b2T_ok (z := true) (b2_ok rfl rfl rfl) (b2_ok rfl rfl rfl) (show some (D.bl (decide (p.1 ≤ p.2))) = _ by rw [decide_eq_true hc])) (tup_ok rfl (show 2 ≤ sizeLine by decide))
      · rw [if_neg hc]
        exact ifE_f (b2T_ok (z := false) (b2_ok rfl rfl rfl) (b2_ok rfl rfl rfl) (show some (D.bl (decide (p.1 ≤ p.2))) = _ by rw [decide_eq_false hc])) (tup_ok rfl (show 2 ≤ sizeLine by decide))
theorem sides_loop (n : Nat) (v0 v1 v2 v5 : Option D) (p : P) : ∀ (sd acc : List P) (x6 x7 x8 : Option D) (S : Cells), S[n]? = some ⟨true, .lst (acc.map encP)⟩ → acc.length + sd.length < 10000 →
    ∃ y6 y7 y8, forD (.tp [.nm 6, .nm 7]) L1_cut (sd.map encP) [v0, v1, v2, some (.ref n), some (encP p), v5, x6, x7, x8] S = .nx [v0, v1, v2, some (.ref n), some (encP p), v5, y6, y7, y8] (S.set n ⟨true, .lst ((acc ++ sd.flatMap fun q => MS.opL (MS.com p q.1 q.2)).map encP)⟩)
  | [], acc, x6, x7, x8, S, h, _ => ⟨x6, x7, x8, by rw [List.flatMap_nil, List.append_nil, set_same h]; rfl⟩
  | q :: sd, acc, x6, x7, x8, S, h, hz => by
    rw [List.length_cons] at hz
    rw [List.flatMap_cons]
    cases eo : MS.com p q.1 q.2 with
    | none =>
      obtain ⟨y6, y7, y8, e⟩ := sides_loop n v0 v1 v2 v5 p sd acc (some (.int q.1)) (some (.int q.2)) (some .non) S h (by omega)
      have e1 := common_ok (S := S) p q.1 q.2
      rw [eo] at e1
      exact ⟨y6, y7, y8, for_cons rfl (sq_nx (set_ok (call_ok rfl e1)) (if_f (b2T_ok (z := false) rfl rfl rfl) rfl)) e⟩
    | some r =>
      obtain ⟨y6, y7, y8, e⟩ := sides_loop n v0 v1 v2 v5 p sd (acc ++ [r]) (some (.int q.1)) (some (.int q.2)) (some (encP r)) (S.set n ⟨true, .lst ((acc ++ [r]).map encP)⟩) (get_set h) (by rw [List.length_append, List.length_singleton]; omega)
      rw [List.set_set, List.append_assoc] at e
      have e1 := common_ok (S := S) p q.1 q.2
      rw [eo] at e1
      have ap : mAppend (.ref n) [encP r] S = some (.non, S.set n ⟨true, .lst ((acc ++ [r]).map encP)⟩) := by
        rw [app_ref h (flat_encP _) (by rw [List.length_map]; have := z24; omega), List.map_append]
        rfl
      exact ⟨y6, y7, y8, for_cons rfl (sq_nx (set_ok (call_ok rfl e1)) (if_t (b2T_ok (z := true) rfl rfl rfl) (exp_ok (mth_ok rfl (ty_ref h) rfl ap)))) e⟩
theorem cut_loop (n : Nat) (v0 : Option D) (lo hi : Int) : ∀ (l acc : List P) (x4 x5 x6 x7 x8 : Option D) (S : Cells), S[n]? = some ⟨true, .lst (acc.map encP)⟩ → (∀ p ∈ l, (0 ≤ p.1 ∧ 0 ≤ p.2) ∧ p.1 < WB ∧ p.2 < WB) → acc.length + 2 * l.length < 5000 →
    ∃ y4 y5 y6 y7 y8, forD (.nm 4) L2_cut (l.map encP) [v0, some (.int lo), some (.int hi), some (.ref n), x4, x5, x6, x7, x8] S = .nx [v0, some (.int lo), some (.int hi), some (.ref n), y4, y5, y6, y7, y8] (S.set n ⟨true, .lst ((acc ++ MS.cutL l lo hi).map encP)⟩)
  | [], acc, x4, x5, x6, x7, x8, S, h, _, _ => ⟨x4, x5, x6, x7, x8, by rw [show MS.cutL [] lo hi = [] from rfl, List.append_nil, set_same h]; rfl⟩
  | p :: l, acc, x4, x5, x6, x7, x8, S, h, hb, hz => by
    rw [List.length_cons] at hz
    have e0 : MS.cutL (p :: l) lo hi = MS.cut1L p lo hi ++ MS.cutL l lo hi := rfl
    have hc1 := (MS.cut1_in (lo := lo) (hi := hi) (hb p List.mem_cons_self).1 (hb p List.mem_cons_self).2).2
    let s1 : List P := [(0, lo - 1), (hi + 1, (mm p).2)]
    let sd : List P := if p.2 < p.1 then s1.reverse else s1
    have esd : (sd.flatMap fun q => MS.opL (MS.com p q.1 q.2)) = MS.cut1L p lo hi := by
      show (List.flatMap _ (if p.2 < p.1 then s1.reverse else s1)) = _
      unfold MS.cut1L
      simp only
      split
      · show MS.opL _ ++ (MS.opL _ ++ []) = _
        rw [List.append_nil]
        rfl
      · show MS.opL _ ++ (MS.opL _ ++ []) = _
        rw [List.append_nil]
        rfl
    have hs : sd.length = 2 := by
      show (if p.2 < p.1 then s1.reverse else s1).length = 2
      split <;> rfl
    obtain ⟨z6, z7, z8, e1⟩ := sides_loop n v0 (some (.int lo)) (some (.int hi)) (some (.lst (sd.map encP))) p sd acc x6 x7 x8 S h (by omega)
    rw [esd] at e1
    obtain ⟨y4, y5, y6, y7, y8, e2⟩ := cut_loop n v0 lo hi l (acc ++ MS.cut1L p lo hi) (some (encP p)) (some (.lst (sd.map encP))) z6 z7 z8 (S.set n ⟨true, .lst ((acc ++ MS.cut1L p lo hi).map encP)⟩) (get_set h) (fun r hr => hb r (List.mem_cons_of_mem _ hr)) (by rw [List.length_append]; omega)
    rw [List.set_set, List.append_assoc, ← e0] at e2
    have st : ∀ ρ : En, ρ = [v0, some (.int lo), some (.int hi), some (.ref n), some (encP p), some (.lst (s1.map encP)), x6, x7, x8] → (ifS (fun ρ => (b2T dGt (b2 ixD (rd ρ 4) (kon (.int 0))) (b2 ixD (rd ρ 4) (kon (.int 1))))) (setS 5 fun ρ => (frzE (revL (rd ρ 5)))) nxS) ρ S = .nx [v0, some (.int lo), some (.int hi), some (.ref n), some (encP p), some (.lst (sd.map encP)), x6, x7, x8] S := fun ρ er => by
      subst er
      by_cases c : p.2 < p.1
      · have es : sd = s1.reverse := if_pos c
        rw [es, List.map_reverse]
        exact if_t (b2T_ok (z := true) (b2_ok rfl rfl rfl) (b2_ok rfl rfl rfl) (show some (D.bl (decide (p.2 < p.1))) = _ by rw [decide_eq_true c])) (set_ok (frz_ok (bd_ok rfl (op_ok rfl))))
      · have es : sd = s1 := if_neg c
        rw [es]
        exact if_f (b2T_ok (z := false) (b2_ok rfl rfl rfl) (b2_ok rfl rfl rfl) (show some (D.bl (decide (p.2 < p.1))) = _ by rw [decide_eq_false c])) rfl
    exact ⟨y4, y5, y6, y7, y8, for_cons rfl (sq_nx (set_ok (frz_ok (lst_ok (cons_ok (tup_ok (cons_ok rfl (cons_ok (b2_ok rfl rfl rfl) rfl)) (show 2 ≤ sizeLine by decide)) (cons_ok (tup_ok (cons_ok (b2_ok rfl rfl rfl) (cons_ok (cb_ok rfl (max_ok p)) rfl)) (show 2 ≤ sizeLine by decide)) rfl)) (show 2 ≤ sizeLine by decide)))) (sq_nx (st _ rfl) (for_ok (itS_ok rfl rfl) e1))) e2⟩
theorem cut_ok {l : List P} (lo hi : Int) (hb : ∀ p ∈ l, (0 ≤ p.1 ∧ 0 ≤ p.2) ∧ p.1 < WB ∧ p.2 < WB) (hz : l.length ≤ 300) : g_cut [.lst (l.map encP), .int lo, .int hi] S = .ok ((MS.cutL l lo hi).map encP) S := by
  obtain ⟨y4, y5, y6, y7, y8, e⟩ := cut_loop S.length (some (.lst (l.map encP))) lo hi l [] none none none none none (S ++ [⟨true, .lst []⟩]) get_new hb (by simp; omega)
  have h := bodyL_ref (S := S) (B := B_cut) (N := 9) (ds := [.lst (l.map encP), .int lo, .int hi]) (l := (MS.cutL l lo hi).map encP) (sq_nx (set_ok (cel_ok (lst_ok rfl (Nat.zero_le _)) rfl)) (sq_nx (for_ok (itS_ok rfl rfl) e) (ret_ok rfl))) (Nat.le_refl _) (get_set get_new)
  rw [take_set_new] at h
  exact h
theorem req_scan_ok {p : P} (h : 0 ≤ p.1 ∧ 0 ≤ p.2) : g_require_scan [encP p] S = .ok .non S :=
  body_nx (S1 := S) (if_f (not_ok (b := true) (val_ok (call_ok rfl (is_scan_ok h)) rfl)) rfl) take_same
theorem in_range3_ok {i j : Int} (h : j ≤ i) : g_in_range [.int i, .int j, .non] S = .ok (.bl true) S :=
  body_rt (S1 := S) (ret_ok (andE_t (call_ok rfl (is_int_ok i)) (andE_t (b2_ok rfl rfl (show some (D.bl (decide (j ≤ i))) = _ by rw [decide_eq_true h])) (orE_t rfl)))) (by simp) take_same
theorem req_int_ok {a b : Int} (h : 0 ≤ a) (h2 : a ≤ b) : g_require_interval [.int a, .int b] S = .ok .non S :=
  body_nx (S1 := S) (if_f (or_f (not_ok (b := true) (val_ok (call_ok rfl (in_range3_ok h)) rfl)) (not_ok (b := true) (val_ok (call_ok rfl (in_range3_ok h2)) rfl))) rfl) take_same
theorem put_ok {l : List P} (h : Big WB l) (q : P) : g_put_on_top [.lst (l.map encP), encP q] S = .ok ((MS.tid (q :: MS.cutL l (mm q).1 (mm q).2)).map encP) S := by
  have hc := (MS.cut_in (lo := (mm q).1) (hi := (mm q).2) h.all).2
  have hz := h.z
  exact bodyL_new (ret_ok (cel_ok (callL_ok (cons_ok (b2_ok (frz_ok (lst_ok rfl (show 1 ≤ sizeLine by decide))) (frz_ok (callL_ok (cons_ok rfl (cons_ok (cb_ok rfl (min_ok q)) (cons_ok (cb_ok rfl (max_ok q)) rfl))) (cut_ok _ _ h.all hz))) (dAdd_lst (by rw [List.length_map]; show 1 + _ ≤ _; have := z24; omega))) rfl) (tidied_ok (q :: MS.cutL l (mm q).1 (mm q).2) (by rw [List.length_cons]; omega))) (flatL_ps _)))
theorem on_top_ok {l : List P} (h : Big WB l) {q : P} (hq : 0 ≤ q.1 ∧ 0 ≤ q.2) : g_on_top [.lst (l.map encP), encP q] S = .ok ((MS.tid (q :: MS.cutL l (mm q).1 (mm q).2)).map encP) S :=
  bodyL_new (sq_nx (exp_ok (call_ok rfl (require_ok h.v))) (sq_nx (exp_ok (call_ok rfl (req_scan_ok hq))) (ret_ok (cel_ok (callL_ok rfl (put_ok h q)) (flatL_ps _)))))
theorem without_ok {l : List P} (h : Big WB l) {a b : Int} (ha : 0 ≤ a) (hb : a ≤ b) : g_without [.lst (l.map encP), .int a, .int b] S = .ok ((MS.tid (MS.cutL l a b)).map encP) S := by
  have hc := (MS.cut_in (lo := a) (hi := b) h.all).2
  have hz := h.z
  exact bodyL_new (sq_nx (exp_ok (call_ok rfl (require_ok h.v))) (sq_nx (exp_ok (call_ok rfl (req_int_ok ha hb))) (ret_ok (cel_ok (callL_ok (cons_ok (frz_ok (callL_ok rfl (cut_ok _ _ h.all hz))) rfl) (tidied_ok _ (by omega))) (flatL_ps _)))))
theorem in_range2_ok {i j : Int} (h : 0 ≤ i) (h2 : i ≤ j) : g_in_range [.int i, .int 0, .int j] S = .ok (.bl true) S :=
  body_rt (S1 := S) (ret_ok (andE_t (call_ok rfl (is_int_ok i)) (andE_t (b2_ok rfl rfl (show some (D.bl (decide (0 ≤ i))) = _ by rw [decide_eq_true h])) (orE_f rfl (b2_ok rfl rfl (show some (D.bl (decide (i ≤ j))) = _ by rw [decide_eq_true h2])))))) (by simp) take_same
theorem req_addr_ok {a : Int} (h : 0 ≤ a) : g_require_address [.int a] S = .ok .non S :=
  body_nx (S1 := S) (if_f (not_ok (b := true) (val_ok (call_ok rfl (in_range_ok h)) rfl)) rfl) take_same
theorem req_index_ok {i n : Int} (h : 0 ≤ i) (h2 : i < n) : g_require_index [.int i, .int n] S = .ok .non S :=
  body_nx (S1 := S) (if_f (not_ok (b := true) (val_ok (call_ok (cons_ok rfl (cons_ok rfl (cons_ok (b2_ok rfl rfl rfl) rfl))) (in_range2_ok h (by omega))) rfl)) rfl) take_same
def opD : Option Nat → D
  | some j => .int (j : Nat)
  | none => .non
theorem place_loop (a : Int) (v0 : Option D) : ∀ (l : List P) (m : Nat) (x3 : Option D), (∃ j, MS.place l a = some j ∧ forD (.nm 3) L1_place_in (l.map encP) [v0, some (.int a), some (.int (m : Nat)), x3] S = .rt (.int ((m + j : Nat))) S) ∨
    (MS.place l a = none ∧ ∃ y2 y3, forD (.nm 3) L1_place_in (l.map encP) [v0, some (.int a), some (.int (m : Nat)), x3] S = .nx [v0, some (.int a), y2, y3] S)
  | [], m, x3 => .inr ⟨rfl, some (.int (m : Nat)), x3, rfl⟩
  | p :: l, m, x3 => by
    have hmm := mm_rng p a
    rw [MS.place_cons]
    by_cases h : a ∈ MS.rng p
    · rw [if_pos h]
      obtain ⟨h1, h2⟩ := hmm.mp h
      refine .inl ⟨_, rfl, for_cons_rt rfl (sq_rt (if_t (chT_ok (k := true) (k2 := true) (cb_ok rfl (min_ok p)) rfl ?_ (cb_ok rfl (max_ok p)) ?_) (ret_ok (b2_ok rfl (cb_ok (cons_ok (b2_ok rfl (b2_ok rfl rfl rfl) rfl) rfl) rfl) ?_))))⟩
      · show some (D.bl (decide ((mm p).1 ≤ a))) = _
        rw [decide_eq_true h1]
      · show some (D.bl (decide (a ≤ (mm p).2))) = _
        rw [decide_eq_true h2]
      · show some (D.int ((m : Nat) + MS.dist a p.1)) = _
        congr 2
        have : 0 ≤ MS.dist a p.1 := by unfold MS.dist; split <;> omega
        omega
    · rw [if_neg h]
      have hlen := MS.rng_len p
      have tst : ∀ ρ : En, ρ[3]? = some (some (encP p)) → ρ[1]? = some (some (.int a)) → chT dLe dLe (cbE dMinL (consM (rd ρ 3) nilA)) (rd ρ 1) (cbE dMaxL (consM (rd ρ 3) nilA)) S = .ok false S := fun ρ e3 e1 => by
        have r3 : rd ρ 3 S = .ok (encP p) S := by unfold rd; rw [e3]
        have r1 : rd ρ 1 S = .ok (.int a) S := by unfold rd; rw [e1]
        have := chT_ok (op := dLe) (op' := dLe) (k := decide ((mm p).1 ≤ a)) (k2 := decide (a ≤ (mm p).2)) (cb_ok (cons_ok r3 rfl) (min_ok p)) r1 rfl (cb_ok (cons_ok r3 rfl) (max_ok p)) rfl
        refine Eq.trans this ?_
        congr 1
        by_cases c : (mm p).1 ≤ a
        · have : ¬ a ≤ (mm p).2 := fun d => h (hmm.mpr ⟨c, d⟩)
          rw [decide_eq_false this, Bool.and_false]
        · rw [decide_eq_false c, Bool.false_and]
      have step : ∀ r, forD (.nm 3) L1_place_in (l.map encP) [v0, some (.int a), some (.int ((m + (MS.rng p).length : Nat))), some (encP p)] S = r → forD (.nm 3) L1_place_in ((p :: l).map encP) [v0, some (.int a), some (.int (m : Nat)), x3] S = r := fun r e =>
        for_cons rfl (sq_nx (if_f (tst _ rfl rfl) rfl) (set_ok (d := .int ((m + (MS.rng p).length : Nat))) (b2_ok rfl (call_ok rfl (size_ok p)) (show some (D.int ((m : Nat) + (MS.dist p.2 p.1 + 1))) = _ by congr 2; omega)))) e
      rcases place_loop a v0 l (m + (MS.rng p).length) (some (encP p)) with ⟨j, e1, e2⟩ | ⟨e1, y2, y3, e2⟩
      · refine .inl ⟨j + (MS.rng p).length, by rw [e1]; rfl, ?_⟩
        rw [step _ e2]
        congr 3
        omega
      · exact .inr ⟨by rw [e1]; rfl, y2, y3, step _ e2⟩
theorem place_in_ok (l : List P) (a : Int) : g_place_in [.lst (l.map encP), .int a] S = .ok (opD (MS.place l a)) S := by
  rcases place_loop (S := S) a (some (.lst (l.map encP))) l 0 none with ⟨j, e1, e2⟩ | ⟨e1, y2, y3, e2⟩
  · rw [e1]
    rw [Nat.zero_add] at e2
    exact body_rt (S1 := S) (sq_nx (set_ok rfl) (sq_rt (for_ok (itS_ok rfl rfl) e2))) (by simp [opD]) take_same
  · rw [e1]
    exact body_rt (S1 := S) (sq_nx (set_ok rfl) (sq_nx (for_ok (itS_ok rfl rfl) e2) (ret_ok rfl))) (by simp [opD]) take_same
theorem place_of_ok {l : List P} (h : Valid l) {a : Int} (ha : 0 ≤ a) : g_place_of [.lst (l.map encP), .int a] S = .ok (opD (MS.place l a)) S := by
  have hf : (opD (MS.place l a)).flat = true := by cases MS.place l a <;> simp [opD]
  exact body_rt (S1 := S) (sq_nx (exp_ok (call_ok rfl (require_ok h))) (sq_nx (exp_ok (call_ok rfl (req_addr_ok ha))) (ret_ok (call_ok rfl (place_in_ok l a))))) hf take_same
theorem nth_loop (v0 v1 : Option D) : ∀ (l : List P) (k : Nat) (x3 : Option D) (a : Int), (MS.reads l)[k]? = some a → k < 2 ^ 1000 → forD (.nm 3) L1_nth_address (l.map encP) [v0, v1, some (.int (k : Nat)), x3] S = .rt (.int a) S
  | [], k, x3, a, h, _ => by simp [MS.reads] at h
  | p :: l, k, x3, a, h, hk => by
    have h : (MS.rng p ++ MS.reads l)[k]? = some a := h
    have hlen := MS.rng_len p
    by_cases c : k < (MS.rng p).length
    · rw [List.getElem?_append_left c, MS.rng_get c] at h
      cases h
      refine for_cons_rt rfl (sq_rt (if_t (b2T_ok (z := true) rfl (call_ok rfl (size_ok p)) ?_) (ret_ok (b2_ok (call_ok (cons_ok rfl (cons_ok rfl (cons_ok (b2_ok rfl rfl rfl) rfl))) (part_ok p _ _ ?_ ?_)) rfl rfl))))
      · show some (D.bl (decide ((k : Int) < MS.dist p.2 p.1 + 1))) = _
        rw [decide_eq_true (by omega)]
      · exact Nat.lt_of_lt_of_le (show ((k : Nat) : Int).natAbs < 2 ^ 1000 from hk) (Nat.pow_le_pow_right (by decide) (by decide))
      · rw [show (k : Int) + 1 - 1 = (k : Nat) by omega]
        exact Nat.lt_of_lt_of_le (show ((k : Nat) : Int).natAbs < 2 ^ 1000 from hk) (Nat.pow_le_pow_right (by decide) (by decide))
    · rw [List.getElem?_append_right (by omega)] at h
      refine for_cons rfl (sq_nx (if_f (b2T_ok (z := false) rfl (call_ok rfl (size_ok p)) ?_) rfl) (set_ok (d := .int ((k - (MS.rng p).length : Nat))) (b2_ok rfl (call_ok rfl (size_ok p)) ?_))) (nth_loop v0 v1 l (k - (MS.rng p).length) (some (encP p)) a h (Nat.lt_of_le_of_lt (Nat.sub_le _ _) hk))
      · show some (D.bl (decide ((k : Int) < MS.dist p.2 p.1 + 1))) = _
        rw [decide_eq_false (by omega)]
      · show some (D.int ((k : Int) - (MS.dist p.2 p.1 + 1))) = _
        congr 2
        omega
theorem nth_ok {l : List P} (h : Valid l) {k : Nat} {a : Int} (ha : (MS.reads l)[k]? = some a) (hk : k < 2 ^ 1000) : g_nth_address [.lst (l.map encP), .int (k : Nat)] S = .ok (.int a) S := by
  have hlt := (List.getElem?_eq_some_iff.mp ha).1
  exact body_rt (S1 := S) (sq_nx (exp_ok (call_ok rfl (require_ok h))) (sq_nx (exp_ok (call_ok (cons_ok rfl (cons_ok (call_ok rfl (total_ok l)) rfl)) (req_index_ok (by omega) (by omega)))) (sq_nx (set_ok rfl) (sq_rt (for_ok (itS_ok rfl rfl) (nth_loop _ _ l k none a ha hk)))))) (by simp) take_same
end
end K04
end
section
set_option maxHeartbeats 4000000
namespace K04
open PySem PySem.Spec L2 DL
open PyProof.Rows hiding St
open MS (P Valid)
section
variable {S : Cells}
theorem lsize_ok (p : P) : g__law_size [encP p] S = .ok (.int (MS.dist p.2 p.1 + 1)) S := body_rt (S1 := S) (ret_ok (b2_ok (cb_ok rfl rfl) rfl rfl)) (by simp) take_same
theorem cut_some (ns : List Int) (n : Nat) : cutD (ns.map D.int) none (some (n : Int)) = (ns.take n).map D.int := by
  unfold DL.cutD
  rw [HT.sIx_none, show HT.sIx (ns.map D.int).length (ns.map D.int).length (some (n : Int)) = min n (ns.map D.int).length from HT.sIx_nat _ _ n]
  rw [List.drop_zero, Nat.sub_zero, List.map_take]
  by_cases h10 : n ≤ (ns.map D.int).length
  · rw [Nat.min_eq_left h10]
  · rw [Nat.min_eq_right (by omega), List.take_of_length_le (Nat.le_refl _), List.take_of_length_le (by omega)]
theorem within_ok (p : P) (a b : Int) : g__law_within [encP p, .int a, .int b] S = .ok (.lst ((MS.opL (MS.com p a b)).map encP)) S := by
  let bb : Int := if (mm p).1 > a then (mm p).1 else a
  let tt : Int := if (mm p).2 < b then (mm p).2 else b
  have ec : MS.com p a b = if tt < bb then none else some (if p.1 ≤ p.2 then (bb, tt) else (tt, bb)) := rfl
  have st : parS 3 4 (fun ρ => (consM (cbE dMax2 (consM (rd ρ 1) (consM (cbE dMinL (consM (rd ρ 0) nilA)) nilA))) (consM (cbE dMin2 (consM (rd ρ 2) (consM (cbE dMaxL (consM (rd ρ 0) nilA)) nilA))) nilA))) (startD 5 [encP p, .int a, .int b]) S = .nx [some (encP p), some (.int a), some (.int b), some (.int bb), some (.int tt)] S :=
    par_ok (cons_ok (cb_ok (cons_ok rfl (cons_ok (cb_ok rfl (min_ok p)) rfl)) rfl) (cons_ok (cb_ok (cons_ok rfl (cons_ok (cb_ok rfl (max_ok p)) rfl)) rfl) rfl))
  rw [ec]
  generalize bb = x at st
  generalize tt = y at st
  by_cases c : y < x
  · rw [if_pos c]
    refine body_rt (S1 := S) (sq_nx st (sq_rt (if_t (b2T_ok (z := true) rfl rfl ?_) (ret_ok (frz_ok (lst_ok rfl (Nat.zero_le _))))))) (flat_ps []) take_same
    show some (D.bl (decide (y < x))) = _
    rw [decide_eq_true c]
  · rw [if_neg c]
    refine body_rt (S1 := S) (sq_nx st (sq_nx (if_f (b2T_ok (z := false) rfl rfl ?_) rfl) (ret_ok (frz_ok (lst_ok (cons_ok (d := encP (if p.1 ≤ p.2 then (x, y) else (y, x))) (S1 := S) ?_ rfl) (show 1 ≤ sizeLine by decide)))))) (flat_ps _) take_same
    · show some (D.bl (decide (y < x))) = _
      rw [decide_eq_false c]
    · by_cases hc : p.1 ≤ p.2
      · rw [if_pos hc]
        exact ifE_t (b2T_ok (z := true) (b2_ok rfl rfl rfl) (b2_ok rfl rfl rfl) (show some (D.bl (decide (p.1 ≤ p.2))) = _ by rw [decide_eq_true hc])) (tup_ok rfl (show 2 ≤ sizeLine by decide))
      · rw [if_neg hc]
        exact ifE_f (b2T_ok (z := false) (b2_ok rfl rfl rfl) (b2_ok rfl rfl rfl) (show some (D.bl (decide (p.1 ≤ p.2))) = _ by rw [decide_eq_false hc])) (tup_ok rfl (show 2 ≤ sizeLine by decide))
theorem opL_len (o : Option P) : (MS.opL o).length ≤ 1 := by cases o <;> simp [MS.opL]
theorem lcut_loop (v0 : Option D) (lo hi : Int) : ∀ (l acc : List P) (x4 x5 : Option D), acc.length + 2 * l.length < 5000 →
    ∃ y4 y5, forD (.nm 4) L1__law_cut (l.map encP) [v0, some (.int lo), some (.int hi), some (.lst (acc.map encP)), x4, x5] S = .nx [v0, some (.int lo), some (.int hi), some (.lst ((acc ++ MS.cutL l lo hi).map encP)), y4, y5] S
  | [], acc, x4, x5, _ => ⟨x4, x5, by rw [show MS.cutL [] lo hi = [] from rfl, List.append_nil]; rfl⟩
  | p :: l, acc, x4, x5, hz => by
    have zz := z24
    rw [List.length_cons] at hz
    have e0 : MS.cutL (p :: l) lo hi = MS.cut1L p lo hi ++ MS.cutL l lo hi := rfl
    let A : List P := MS.opL (MS.com p 0 (lo - 1))
    let B : List P := MS.opL (MS.com p (hi + 1) (mm p).2)
    have lA : A.length ≤ 1 := opL_len _
    have lB : B.length ≤ 1 := opL_len _
    have ec : MS.cut1L p lo hi = if p.2 < p.1 then B ++ A else A ++ B := rfl
    have lc : (MS.cut1L p lo hi).length ≤ 2 := by
      rw [ec]
      split <;> (rw [List.length_append]; omega)
    obtain ⟨y4, y5, e⟩ := lcut_loop v0 lo hi l (acc ++ MS.cut1L p lo hi) (some (encP p)) (some (.lst [.lst (A.map encP), .lst (B.map encP)])) (by rw [List.length_append]; omega)
    rw [List.append_assoc, ← e0] at e
    have st : ∀ ρ : En, ρ[4]? = some (some (encP p)) → ρ[5]? = some (some (.lst [.lst (A.map encP), .lst (B.map encP)])) → (ifE (b2T dLe (b2 ixD (rd ρ 4) (kon (.int 0))) (b2 ixD (rd ρ 4) (kon (.int 1)))) (b2 dAdd (b2 ixD (rd ρ 5) (kon (.int 0))) (b2 ixD (rd ρ 5) (kon (.int 1)))) (b2 dAdd (b2 ixD (rd ρ 5) (kon (.int 1))) (b2 ixD (rd ρ 5) (kon (.int 0))))) S = .ok (.lst ((MS.cut1L p lo hi).map encP)) S := fun ρ e4 e5 => by
      have r4 : rd ρ 4 S = .ok (encP p) S := by unfold rd; rw [e4]
      have r5 : rd ρ 5 S = .ok (.lst [.lst (A.map encP), .lst (B.map encP)]) S := by unfold rd; rw [e5]
      by_cases c : p.1 ≤ p.2
      · rw [ec, if_neg (by omega), List.map_append]
        exact ifE_t (b2T_ok (z := true) (b2_ok r4 rfl rfl) (b2_ok r4 rfl rfl) (show some (D.bl (decide (p.1 ≤ p.2))) = _ by rw [decide_eq_true c])) (b2_ok (b2_ok r5 rfl rfl) (b2_ok r5 rfl rfl) (dAdd_lst (by rw [List.length_map, List.length_map]; omega)))
      · rw [ec, if_pos (by omega), List.map_append]
        exact ifE_f (b2T_ok (z := false) (b2_ok r4 rfl rfl) (b2_ok r4 rfl rfl) (show some (D.bl (decide (p.1 ≤ p.2))) = _ by rw [decide_eq_false c])) (b2_ok (b2_ok r5 rfl rfl) (b2_ok r5 rfl rfl) (dAdd_lst (by rw [List.length_map, List.length_map]; omega)))
    refine ⟨y4, y5, for_cons rfl (sq_nx (set_ok (frz_ok (lst_ok (cons_ok (call_ok (cons_ok rfl (cons_ok rfl (cons_ok (b2_ok rfl rfl rfl) rfl))) (within_ok p 0 (lo - 1))) (cons_ok (call_ok (cons_ok rfl (cons_ok (b2_ok rfl rfl rfl) (cons_ok (cb_ok rfl (max_ok p)) rfl))) (within_ok p (hi + 1) (mm p).2)) rfl)) (show 2 ≤ sizeLine by decide)))) (set_ok (b2_ok rfl (st _ rfl rfl) (dAdd_lst ?_)))) ?_⟩
    · rw [List.length_map, List.length_map]
      omega
    · rw [← List.map_append]
      exact e
theorem lcut_ok (l : List P) (lo hi : Int) (hz : l.length ≤ 300) : g__law_cut [.lst (l.map encP), .int lo, .int hi] S = .ok (.lst ((MS.cutL l lo hi).map encP)) S := by
  obtain ⟨y4, y5, e⟩ := lcut_loop (S := S) (some (.lst (l.map encP))) lo hi l [] none none (by simp; omega)
  exact body_rt (S1 := S) (sq_nx (set_ok (frz_ok (lst_ok rfl (Nat.zero_le _)))) (sq_nx (for_ok (itS_ok rfl rfl) e) (ret_ok rfl))) (flat_ps _) take_same
theorem lfirst_loop (n : Nat) (v0 v1 : Option D) : ∀ (l acc : List P) (left : Int) (x4 x5 x6 : Option D) (S : Cells), (∀ p ∈ l, (0 ≤ p.1 ∧ 0 ≤ p.2) ∧ p.1 < WB ∧ p.2 < WB) → S[n]? = some ⟨true, .lst (acc.map encP)⟩ → acc.length + l.length < 10000 →
    ∃ y3 y4 y5 y6, forD (.nm 4) L1__law_first (l.map encP) [v0, v1, some (.ref n), some (.int left), x4, x5, x6] S = .nx [v0, v1, some (.ref n), y3, y4, y5, y6] (S.set n ⟨true, .lst ((acc ++ MS.beg l left).map encP)⟩)
  | [], acc, left, x4, x5, x6, S, _, h, _ => ⟨_, x4, x5, x6, by rw [show MS.beg [] left = [] from rfl, List.append_nil, set_same h]; rfl⟩
  | p :: l, acc, left, x4, x5, x6, S, hb, h, hz => by
    rw [List.length_cons] at hz
    have hp := hb p List.mem_cons_self
    by_cases c : 0 < left
    · let e : Int := if MS.dist p.2 p.1 + 1 < left then MS.dist p.2 p.1 + 1 else left
      let q : P := (p.1, p.1 + (if p.1 ≤ p.2 then 1 else -1) * (e - 1))
      have hd := MS.dist_nn p.2 p.1
      have hd2 : MS.dist p.2 p.1 < WB := by unfold MS.dist; split <;> omega
      have he : 0 < e ∧ e ≤ WB := by
        by_cases c2 : MS.dist p.2 p.1 + 1 < left
        · have : e = MS.dist p.2 p.1 + 1 := if_pos c2
          omega
        · have : e = left := if_neg c2
          omega
      have ebl : MS.beg l (left - (MS.dist p.2 p.1 + 1)) = MS.beg l (left - e) := by
        by_cases c2 : MS.dist p.2 p.1 + 1 < left
        · have : e = MS.dist p.2 p.1 + 1 := if_pos c2
          rw [this]
        · have : e = left := if_neg c2
          rw [MS.beg_zero l _ (by omega), MS.beg_zero l _ (by omega)]
      have eb : MS.beg (p :: l) left = q :: MS.beg l (left - e) := by
        show (if 0 < left then _ else _) = _
        rw [if_pos c, ebl]
      obtain ⟨y3, y4, y5, y6, e2⟩ := lfirst_loop n v0 v1 l (acc ++ [q]) (left - e) (some (encP p)) (some (.int e)) (some (.int (if p.1 ≤ p.2 then 1 else -1))) (S.set n ⟨true, .lst ((acc ++ [q]).map encP)⟩) (fun r hr => hb r (List.mem_cons_of_mem _ hr)) (get_set h) (by rw [List.length_append, List.length_singleton]; omega)
      rw [List.set_set, List.append_assoc] at e2
      rw [eb]
      have ap : mAppend (.ref n) [encP q] S = some (.non, S.set n ⟨true, .lst ((acc ++ [q]).map encP)⟩) := by
        rw [app_ref h (flat_encP _) (by rw [List.length_map]; have := z24; omega), List.map_append]
        rfl
      have so : (if p.1 ≤ p.2 then (1 : Int) else -1).natAbs < 2 ^ 1 := by split <;> decide
      have stp : setS 6 (fun ρ => (ifE (b2T dLe (b2 ixD (rd ρ 4) (kon (.int 0))) (b2 ixD (rd ρ 4) (kon (.int 1)))) (kon (.int 1)) (b1 dNeg (kon (.int 1))))) [v0, v1, some (.ref n), some (.int left), some (encP p), some (.int e), x6] S = .nx [v0, v1, some (.ref n), some (.int left), some (encP p), some (.int e), some (.int (if p.1 ≤ p.2 then 1 else -1))] S := by
        by_cases hc : p.1 ≤ p.2
        · rw [if_pos hc]
          exact set_ok (d := .int 1) (ifE_t (b2T_ok (z := true) (b2_ok rfl rfl rfl) (b2_ok rfl rfl rfl) (show some (D.bl (decide (p.1 ≤ p.2))) = _ by rw [decide_eq_true hc])) rfl)
        · rw [if_neg hc]
          exact set_ok (d := .int (-1)) (ifE_f (b2T_ok (z := false) (b2_ok rfl rfl rfl) (b2_ok rfl rfl rfl) (show some (D.bl (decide (p.1 ≤ p.2))) = _ by rw [decide_eq_false hc])) rfl)
      refine ⟨y3, y4, y5, y6, for_cons rfl (if_t (b2T_ok (z := true) rfl rfl ?_) (sq_nx (set_ok (d := .int e) (cb_ok (cons_ok rfl (cons_ok (call_ok rfl (lsize_ok p)) rfl)) rfl)) (sq_nx stp (sq_nx (exp_ok (mth_ok rfl (ty_ref h) (cons_ok (tup_ok (cons_ok (b2_ok rfl rfl rfl) (cons_ok (b2_ok (b2_ok rfl rfl rfl) (b2_ok rfl (b2_ok rfl rfl rfl) (dMul_ok (okMul_of 1 500000 so (small400 (by omega) (by omega)) (by decide)))) rfl) rfl)) (show 2 ≤ sizeLine by decide)) rfl) ap)) (set_ok (b2_ok rfl rfl rfl)))))) e2⟩
      show some (D.bl (decide (0 < left))) = _
      rw [decide_eq_true c]
    · obtain ⟨y3, y4, y5, y6, e2⟩ := lfirst_loop n v0 v1 l acc left (some (encP p)) x5 x6 S (fun r hr => hb r (List.mem_cons_of_mem _ hr)) h (by omega)
      have eb : MS.beg (p :: l) left = MS.beg l left := by
        show (if 0 < left then _ else _) = _
        rw [if_neg c]
      rw [eb]
      refine ⟨y3, y4, y5, y6, for_cons rfl (if_f (b2T_ok (z := false) rfl rfl ?_) rfl) e2⟩
      show some (D.bl (decide (0 < left))) = _
      rw [decide_eq_false c]
theorem lfirst_ok {l : List P} (many : Int) (hb : ∀ p ∈ l, (0 ≤ p.1 ∧ 0 ≤ p.2) ∧ p.1 < WB ∧ p.2 < WB) (hz : l.length < 10000) : g__law_first [.lst (l.map encP), .int many] S = .ok (.lst ((MS.beg l many).map encP)) S := by
  obtain ⟨y3, y4, y5, y6, e⟩ := lfirst_loop S.length (some (.lst (l.map encP))) (some (.int many)) l [] many none none none (S ++ [⟨true, .lst []⟩]) hb get_new (by simpa using hz)
  have h := body_ref (S := S) (B := B__law_first) (N := 7) (ds := [.lst (l.map encP), .int many]) (l := (MS.beg l many).map encP) (sq_nx (par_ok (cons_ok (cel_ok (lst_ok rfl (Nat.zero_le _)) rfl) (cons_ok rfl rfl))) (sq_nx (for_ok (itS_ok rfl rfl) e) (ret_ok rfl))) (Nat.le_refl _) (get_set get_new)
  rw [take_set_new] at h
  exact h
end
end K04
end
section
set_option maxHeartbeats 4000000
namespace K04
open PySem PySem.Spec L2 DL
open PyProof.Rows hiding St
open MS (P Valid)
section
variable {S : Cells}
theorem dNe_ps (l m : List P) : dNe (.lst (l.map encP)) (.lst (m.map encP)) S = some (.bl (!decide (l = m))) := by
  show (eqP _ _ S).map (fun b => D.bl (!b)) = _
  rw [eqP_of (vw_ps l) (vw_ps m) (shaped_ps l) (shaped_ps m)]
  show some (D.bl (!PyData.eqvAll _ _)) = _
  rw [eqv_ps]
abbrev N64 : Int := 10000000000000000000000000000000000000000000000000000000000000000
abbrev N35 : Int := 100000000000000000000000000000000000
abbrev N30 : Int := 1000000000000000000000000000000
theorem pow64 : dPow (.int 10) (.int 64) S = some (.int N64) := by kernel_rfl
theorem pow35 : dPow (.int 10) (.int 35) S = some (.int N35) := by kernel_rfl
theorem pow30 : dPow (.int 10) (.int 30) S = some (.int N30) := by kernel_rfl
theorem mul99 : dMul (.int N64) (.int N35) S = some (.int (N64 * N35)) := dMul_ok (okMul_of 250 250 (by decide +kernel) (by decide +kernel) (by decide))
theorem catL_ref {f : Nat} {b : Bool} {ms : List Int} {l : List Int} (h : S[f]? = some ⟨b, .lst (ms.map .int)⟩) (hz : ms.length + l.length ≤ sizeLine) : catL (.ref f) (.lst (l.map .int)) S = some ((ms ++ l).map .int) := by
  unfold catL
  rw [seqL_ref h]
  show (if (ms.map D.int).length + (l.map D.int).length ≤ sizeLine then some (ms.map D.int ++ l.map D.int) else none) = _
  rw [if_pos (by rw [List.length_map, List.length_map]; exact hz), List.map_append]
theorem marks_loop {l : List P} (h : Big WB l) (hne : 0 < l.length) (nb : Nat) : ∀ (is : List D) (k f : Nat) (ms : List Int) (x3 x4 : Option D) (S : Cells), Bag S nb k → k + 2 * is.length ≤ 100000 → nb ≠ f → S[f]? = some ⟨true, .lst (ms.map .int)⟩ → (∀ a ∈ ms, 0 ≤ a) → ms.length + 5 * is.length ≤ 1000 → f < S.length →
    ∃ (f' : Nat) (ms' : List Int) (y3 y4 : Option D) (S' : Cells), forD (.nm 3) L1__law_marks is [some (.ref nb), some (.lst (l.map encP)), some (.ref f), x3, x4] S = .nx [some (.ref nb), some (.lst (l.map encP)), some (.ref f'), y3, y4] S' ∧ S'[f']? = some ⟨true, .lst (ms'.map .int)⟩ ∧ (∀ a ∈ ms', 0 ≤ a) ∧ ms.length ≤ ms'.length ∧ ms'.length ≤ 1000 ∧ Bag S' nb (k + 2 * is.length) ∧ f ≤ f' ∧ S.length ≤ S'.length
  | [], k, f, ms, x3, x4, S, hb, _, _, hf, hm, hz, _ => ⟨f, ms, x3, x4, S, rfl, hf, hm, Nat.le_refl _, by simp at hz; omega, hb, Nat.le_refl _, Nat.le_refl _⟩
  | i :: is, k, f, ms, x3, x4, S, hb, hk, hne2, hf, hm, hz, hfl => by
    have zz := z24
    rw [List.length_cons] at hk hz
    have hlz := h.z
    obtain ⟨v, S1, e1, v0, v1, bg1, m1⟩ := pick_ok hb (by omega) (m := (l.length : Nat)) (by omega) (by omega)
    have hl1 : S1.length = S.length := m1.1
    have ep : l[v.toNat]? = some (l.getD v.toNat MS.z) := getD_some (by omega)
    obtain ⟨p, hp⟩ : ∃ p, p = l.getD v.toNat MS.z := ⟨_, rfl⟩
    rw [← hp] at ep
    have hpm : p ∈ l := List.mem_of_getElem? ep
    have hpa := h.all p hpm
    have gf1 : S1[f]? = some ⟨true, .lst (ms.map .int)⟩ := by rw [m1.2 f (by simp; exact hne2.symm)]; exact hf
    let lo : Int := (mm p).1 - 1
    let mx : Int := if lo > 0 then lo else 0
    let l4 : List Int := [p.1, p.2, mx, (mm p).2 + 1]
    let S2 : Cells := S1 ++ [⟨true, .lst ((ms ++ l4).map .int)⟩]
    have g2 : S2[S1.length]? = some ⟨true, .lst ((ms ++ l4).map .int)⟩ := get_new
    have hd := MS.dist_nn p.2 p.1
    have hd2 : MS.dist p.2 p.1 < WB := by unfold MS.dist; split <;> omega
    have hWB := WB_le
    obtain ⟨u, S3, e3, u0, u1, bg3, m3⟩ := pick_big (bag_app (l := [⟨true, .lst ((ms ++ l4).map .int)⟩]) bg1) (by omega) (m := MS.dist p.2 p.1 + 1) (by omega) (Nat.lt_of_lt_of_le (lt_pow (b := 401) (m := MS.dist p.2 p.1 + 2) (by omega) (by omega) (by
      have : (2 : Int) ^ 401 = 2 * 2 ^ 400 := by decide +kernel
      omega)) (Nat.pow_le_pow_right (by decide) (by decide)))
    have n2 : S2.length = S1.length + 1 := by simp [S2]
    have hnb := hb.lt
    have g3 : S3[S1.length]? = some ⟨true, .lst ((ms ++ l4).map .int)⟩ := by rw [m3.2 _ (by simp; omega)]; exact g2
    have ap : mAppend (.ref S1.length) [.int ((mm p).1 + u)] S3 = some (.non, S3.set S1.length ⟨true, .lst ((ms ++ l4 ++ [(mm p).1 + u]).map .int)⟩) := by
      rw [app_ref g3 (flat_int _) (by rw [List.length_map, List.length_append]; show _ + 4 < _; omega), List.map_append (l₁ := ms ++ l4)]
      rfl
    have hmm : 0 ≤ (mm p).1 ∧ 0 ≤ (mm p).2 := by
      unfold mm
      simp only
      constructor <;> split <;> omega
    obtain ⟨f', ms', y3, y4, S', e, gf', hm', hz1, hz2, hb', hff, hll⟩ := marks_loop h hne nb is (k + 2) S1.length (ms ++ l4 ++ [(mm p).1 + u]) (some i) (some (encP p)) (S3.set S1.length ⟨true, .lst ((ms ++ l4 ++ [(mm p).1 + u]).map .int)⟩) (bg3.mv (Mv.set _ (ns := [S1.length]) (by simp)) (by simp; omega)) (by omega) (by omega) (get_set g3)
      (fun a ha => by
        rcases List.mem_append.mp ha with ha | ha
        · rcases List.mem_append.mp ha with ha | ha
          · exact hm a ha
          · have ha : a ∈ [p.1, p.2, mx, (mm p).2 + 1] := ha
            have hmx : 0 ≤ mx := by show 0 ≤ (if lo > 0 then lo else 0); split <;> omega
            simp only [List.mem_cons, List.not_mem_nil, or_false] at ha
            rcases ha with e | e | e | e <;> subst e <;> omega
        · rw [List.mem_singleton] at ha
          subst ha
          omega) (by rw [List.length_append, List.length_append, List.length_singleton]; show _ + 4 + 1 + _ ≤ _; omega) (by rw [List.length_set, m3.1, List.length_append, List.length_singleton]; omega)
    rw [List.length_append, List.length_append] at hz1
    have n3 : (S3.set S1.length ⟨true, .lst ((ms ++ l4 ++ [(mm p).1 + u]).map .int)⟩).length = S1.length + 1 := by rw [List.length_set, m3.1, List.length_append, List.length_singleton]
    have e1' : g__law_pick [.ref nb, .int ((l.map encP).length : Nat)] S = .ok (.int v) S1 := by
      rw [List.length_map]
      exact e1
    refine ⟨f', ms', y3, y4, S', for_cons rfl (sq_nx (set_ok (d := encP p) (b2_ok rfl (call_ok (cons_ok rfl (cons_ok (cb_ok rfl rfl) rfl)) e1') (ix_ps (j := v.toNat) (by omega) ep))) (sq_nx (set_ok (cel_ok (b2L_ok rfl (frz_ok (lst_ok (l := l4.map .int) (cons_ok (b2_ok rfl rfl rfl) (cons_ok (b2_ok rfl rfl rfl) (cons_ok (cb_ok (cons_ok rfl (cons_ok (b2_ok (cb_ok rfl (min_ok p)) rfl rfl) rfl)) rfl) (cons_ok (b2_ok (cb_ok rfl (max_ok p)) rfl rfl) rfl)))) (show 4 ≤ sizeLine by decide))) (catL_ref gf1 (by show _ + 4 ≤ _; omega))) (flatL_is _))) (exp_ok (mth_ok rfl (ty_ref g2) (cons_ok (b2_ok (cb_ok rfl (min_ok p)) (call_ok (cons_ok rfl (cons_ok (call_ok rfl (lsize_ok p)) rfl)) e3) rfl) rfl) ap)))) e, gf', hm', by omega, hz2, hb'.mono (by rw [List.length_cons]; omega), by omega, by omega⟩
end
end K04
end
section
set_option maxHeartbeats 4000000
namespace K04
open PySem PySem.Spec L2 DL
open PyProof.Rows hiding St
open MS (P Valid)
section
variable {S : Cells}
theorem body_refD {N : Nat} {B : SM} {ds : List D} {n : Nat} {b : Bool} {l : List D} {S1 : Cells} (h : B (startD N ds) S = .rt (.ref n) S1) (hn : S.length ≤ n) (hc : S1[n]? = some ⟨b, .lst l⟩) : bodyD N B ds S = .ok (.lst l) (S1.take S.length) := body_ref h hn hc
theorem marks_ok {l : List P} (h : Big WB l) {nb k : Nat} (hb : Bag S nb k) (hk : k ≤ 90000) : ∃ (ms : List Int) (S' : Cells), g__law_marks [.ref nb, .lst (l.map encP)] S = .ok (.lst (ms.map .int)) S' ∧ (∀ a ∈ ms, 0 ≤ a) ∧ 2 ≤ ms.length ∧ ms.length ≤ 1000 ∧ Bag S' nb (k + 8) := by
  have zz := z24
  have hnb := hb.lt
  let S1 : Cells := S ++ [⟨true, .lst (([0, N64 * N35] : List Int).map .int)⟩]
  have g1 : S1[S.length]? = some ⟨true, .lst (([0, N64 * N35] : List Int).map .int)⟩ := get_new
  have n1 : S1.length = S.length + 1 := by simp [S1]
  have m0 : ∀ a ∈ ([0, N64 * N35] : List Int), 0 ≤ a := fun a ha => by
    simp only [List.mem_cons, List.not_mem_nil, or_false] at ha
    rcases ha with e | e <;> subst e <;> decide
  have hb1 : Bag S1 nb k := bag_app hb
  by_cases hl : l = []
  · subst hl
    refine ⟨[0, N64 * N35], _, body_refD (S := S) (S1 := S1) (n := S.length) (b := true) (sq_nx (set_ok (cel_ok (lst_ok (cons_ok rfl (cons_ok (b2_ok (b2_ok rfl rfl pow64) (b2_ok rfl rfl pow35) mul99) rfl)) (show 2 ≤ sizeLine by decide)) (flatL_is [0, N64 * N35]))) (sq_nx (for_ok (S1 := S1) (l := []) (itR1_ok (cons_ok (b2_ok rfl (cb_ok (cons_ok (b2_ok rfl (frz_ok (lst_ok rfl (Nat.zero_le _))) (dNe_ps [] [])) rfl) rfl) rfl) rfl) (range1_ok (n := 0) (by decide))) rfl) (ret_ok rfl))) (Nat.le_refl _) g1, m0, by decide, by decide, ?_⟩
    exact (bag_take hb1 hnb).mono (by omega)
  · have hpos : 0 < l.length := List.length_pos_iff.mpr hl
    obtain ⟨f', ms, y3, y4, S2, e, g2, hm, hz1, hz2, hb2, hf, hll⟩ := marks_loop h hpos nb ((List.range 4).map fun i => D.int (i : Nat)) k S.length [0, N64 * N35] none none S1 hb1 (by simp; omega) (by omega) g1 m0 (by simp) (by omega)
    have ne : dNe (.lst (l.map encP)) (.lst (([] : List P).map encP)) S1 = some (.bl true) := by
      rw [dNe_ps, decide_eq_false hl]
      rfl
    refine ⟨ms, _, body_refD (S := S) (S1 := S2) (n := f') (b := true) (sq_nx (set_ok (cel_ok (lst_ok (cons_ok rfl (cons_ok (b2_ok (b2_ok rfl rfl pow64) (b2_ok rfl rfl pow35) mul99) rfl)) (show 2 ≤ sizeLine by decide)) (flatL_is [0, N64 * N35]))) (sq_nx (for_ok (S1 := S1) (itR1_ok (cons_ok (b2_ok rfl (cb_ok (cons_ok (b2_ok rfl (frz_ok (lst_ok rfl (Nat.zero_le _))) ne) rfl) rfl) (dMul_ok (okMul_of 10 10 (by decide) (by decide) (by decide)))) rfl) (range1_ok (n := 4) (by decide))) e) (ret_ok rfl))) hf g2, hm, hz1, hz2, ?_⟩
    exact (bag_take hb2 hnb).mono (by simp)
/-! the place, as the law finds it -/
def opD' : Option Nat → D
  | some j => .int (j : Nat)
  | none => .non
theorem due_loop (a : Int) (v0 v1 v3 x8 x9 x10 x11 x12 x13 x14 : Option D) : ∀ (l : List P) (A B : List Int) (due : D) (x6 x7 : Option D), B = l.map (fun p => MS.dist p.2 p.1 + 1) → (MS.reads l).Nodup →
    ∃ y6 y7, forD (.tp [.nm 6, .nm 7]) L1__law_right (((l.map encP).zipIdx A.length).map fun q => .tup [.int (q.2 : Nat), q.1]) [v0, v1, some (.lst ((A ++ B).map .int)), v3, some (.int a), some due, x6, x7, x8, x9, x10, x11, x12, x13, x14] S =
      .nx [v0, v1, some (.lst ((A ++ B).map .int)), v3, some (.int a), some (match MS.place l a with | some j => .int (A.sum + (j : Nat)) | none => due), y6, y7, x8, x9, x10, x11, x12, x13, x14] S
  | [], A, B, due, x6, x7, _, _ => ⟨x6, x7, rfl⟩
  | p :: l, A, B, due, x6, x7, hB, hn => by
    rw [List.map_cons] at hB
    have hn : (MS.rng p ++ MS.reads l).Nodup := hn
    have hmm := mm_rng p a
    have hlen := MS.rng_len p
    have eB : (A ++ B) = (A ++ [MS.dist p.2 p.1 + 1]) ++ l.map (fun p => MS.dist p.2 p.1 + 1) := by rw [hB, List.append_assoc]; rfl
    have tk : ∀ S' : Cells, slD (.lst ((A ++ B).map .int)) none (some (A.length : Nat)) S' = some (.lst (A.map .int)) := fun S' => by
      show some (D.lst (cutD ((A ++ B).map D.int) none (some (A.length : Nat)))) = _
      rw [cut_some, List.take_left']
      rfl
    have tst : ∀ ρ : En, ρ[7]? = some (some (encP p)) → ρ[4]? = some (some (.int a)) → chT dLe dLe (cbE dMinL (consM (rd ρ 7) nilA)) (rd ρ 4) (cbE dMaxL (consM (rd ρ 7) nilA)) S = .ok (decide ((mm p).1 ≤ a) && decide (a ≤ (mm p).2)) S := fun ρ e7 e4 => by
      have r7 : rd ρ 7 S = .ok (encP p) S := by unfold rd; rw [e7]
      have r4 : rd ρ 4 S = .ok (.int a) S := by unfold rd; rw [e4]
      exact chT_ok (cb_ok (cons_ok r7 rfl) (min_ok p)) r4 rfl (cb_ok (cons_ok r7 rfl) (max_ok p)) rfl
    have alen : (A ++ [MS.dist p.2 p.1 + 1]).length = A.length + 1 := by simp
    have hn2 := (List.nodup_append.mp hn).2.1
    rw [MS.place_cons]
    by_cases hr : a ∈ MS.rng p
    · rw [if_pos hr]
      obtain ⟨h1, h2⟩ := hmm.mp hr
      have no : MS.place l a = none := MS.place_none.mpr fun z => (List.nodup_append.mp hn).2.2 a hr a z rfl
      obtain ⟨y6, y7, e⟩ := due_loop a v0 v1 v3 x8 x9 x10 x11 x12 x13 x14 l (A ++ [MS.dist p.2 p.1 + 1]) (l.map (fun p => MS.dist p.2 p.1 + 1)) (.int (A.sum + MS.dist a p.1)) (some (.int (A.length : Nat))) (some (encP p)) rfl hn2
      rw [no, alen, ← eB] at e
      refine ⟨y6, y7, ?_⟩
      have fin : (D.int (A.sum + ((MS.dist a p.1).toNat : Nat))) = .int (A.sum + MS.dist a p.1) := by
        congr 2
        have := MS.dist_nn a p.1
        omega
      show _ = Out.nx [_, _, _, _, _, some (D.int (A.sum + ((MS.dist a p.1).toNat : Nat))), _, _, _, _, _, _, _, _, _] S
      rw [fin]
      refine for_cons rfl (if_t ((tst _ rfl rfl).trans (by rw [decide_eq_true h1, decide_eq_true h2]; rfl)) (set_ok (b2_ok (cb_ok (cons_ok (bd_ok rfl (bd_ok rfl (bd_ok rfl (op_ok (tk _))))) rfl) (sum_ints A)) (cb_ok (cons_ok (b2_ok rfl (b2_ok rfl rfl rfl) rfl) rfl) rfl) rfl))) e
    · rw [if_neg hr]
      obtain ⟨y6, y7, e⟩ := due_loop a v0 v1 v3 x8 x9 x10 x11 x12 x13 x14 l (A ++ [MS.dist p.2 p.1 + 1]) (l.map (fun p => MS.dist p.2 p.1 + 1)) due (some (.int (A.length : Nat))) (some (encP p)) rfl hn2
      rw [alen, ← eB] at e
      refine ⟨y6, y7, for_cons rfl (if_f ((tst _ rfl rfl).trans ?_) rfl) (e.trans ?_)⟩
      · congr 1
        by_cases c : (mm p).1 ≤ a
        · have : ¬ a ≤ (mm p).2 := fun d => hr (hmm.mpr ⟨c, d⟩)
          rw [decide_eq_false this, Bool.and_false]
        · rw [decide_eq_false c, Bool.false_and]
      · cases MS.place l a with
        | none => rfl
        | some j =>
          show Out.nx [_, _, _, _, _, some (D.int ((A ++ [MS.dist p.2 p.1 + 1]).sum + (j : Nat))), _, _, _, _, _, _, _, _, _] S = Out.nx [_, _, _, _, _, some (D.int (A.sum + ((j + (MS.rng p).length : Nat)))), _, _, _, _, _, _, _, _, _] S
          rw [List.sum_append, show (A.sum + [MS.dist p.2 p.1 + 1].sum + (j : Nat)) = A.sum + ((j + (MS.rng p).length : Nat)) by simp; omega]
theorem reads_lenW {W : Int} : ∀ (l : List P), (∀ p ∈ l, (0 ≤ p.1 ∧ 0 ≤ p.2) ∧ p.1 < W ∧ p.2 < W) → ((MS.reads l).length : Int) ≤ W * (l.length : Nat)
  | [], _ => by simp [MS.reads]
  | p :: l, h => by
    have ih := reads_lenW l fun q hq => h q (List.mem_cons_of_mem _ hq)
    have hp := h p List.mem_cons_self
    have h1 := MS.rng_len p
    have h2 : MS.dist p.2 p.1 < W := by unfold MS.dist; split <;> omega
    show ((MS.rng p ++ MS.reads l).length : Int) ≤ _
    rw [List.length_append, List.length_cons]
    have : W * ((l.length + 1 : Nat) : Int) = W * (l.length : Nat) + W := by
      rw [Int.natCast_add, Int.mul_add]
      simp
    omega
theorem Big.rlen {l : List P} (h : Big WB l) : (MS.reads l).length < 2 ^ 1000 := by
  have h1 := reads_lenW l h.all
  have h2 : (l.length : Int) ≤ 300 := by have := h.z; omega
  have h3 : WB * (l.length : Nat) ≤ WB * 300 := Int.mul_le_mul_of_nonneg_left h2 (by decide +kernel)
  have h4 : WB * 300 < ((2 ^ 1000 : Nat) : Int) := by decide +kernel
  have : ((MS.reads l).length : Int) < ((2 ^ 1000 : Nat) : Int) := by omega
  exact Int.ofNat_lt.mp this
theorem place_get {l : List P} {a : Int} {j : Nat} (h : MS.place l a = some j) : (MS.reads l)[j]? = some a := by
  unfold MS.place at h
  obtain ⟨hj, hp, _⟩ := List.findIdx?_eq_some_iff_getElem.mp h
  rw [List.getElem?_eq_getElem hj]
  congr 1
  simpa using hp
theorem beg_same {l : List P} (h : (MS.reads l).Nodup) {n : Int} (hn : 0 ≤ n) : MS.tid (MS.beg l n) = MS.beg (MS.tid l) n := by
  rw [← MS.beg_law h hn, ← MS.reads_beg l n hn, MS.tid_reads]
theorem addr_ok {l : List P} (h : Big WB l) (a : Int) (ha : 0 ≤ a) (v0 v3 x5 x6 x7 x8 x9 x10 x11 x12 x13 x14 : Option D) : ∃ y5 y6 y7, L2__law_right [v0, some (.lst (l.map encP)), some (.lst ((l.map (fun p => MS.dist p.2 p.1 + 1)).map .int)), v3, some (.int a), x5, x6, x7, x8, x9, x10, x11, x12, x13, x14] S = .nx [v0, some (.lst (l.map encP)), some (.lst ((l.map (fun p => MS.dist p.2 p.1 + 1)).map .int)), v3, some (.int a), y5, y6, y7, x8, x9, x10, x11, x12, x13, x14] S := by
  have zz := z24
  have hz := h.z
  obtain ⟨y6, y7, e⟩ := due_loop (S := S) a v0 (some (.lst (l.map encP))) v3 x8 x9 x10 x11 x12 x13 x14 l [] (l.map (fun p => MS.dist p.2 p.1 + 1)) .non x6 x7 rfl h.v.nd
  have e' : forD (.tp [.nm 6, .nm 7]) L1__law_right (enumD (l.map encP)) [v0, some (.lst (l.map encP)), some (.lst ((l.map (fun p => MS.dist p.2 p.1 + 1)).map .int)), v3, some (.int a), some .non, x6, x7, x8, x9, x10, x11, x12, x13, x14] S = .nx [v0, some (.lst (l.map encP)), some (.lst ((l.map (fun p => MS.dist p.2 p.1 + 1)).map .int)), v3, some (.int a), some (opD (MS.place l a)), y6, y7, x8, x9, x10, x11, x12, x13, x14] S := by
    refine Eq.trans e ?_
    cases MS.place l a with
    | none => rfl
    | some j =>
      show Out.nx [_, _, _, _, _, some (D.int (([] : List Int).sum + (j : Nat))), _, _, _, _, _, _, _, _, _] S = _
      rw [List.sum_nil, Int.zero_add]
      rfl
  have pl := place_of_ok (S := S) h.v ha
  refine ⟨some (opD (MS.place l a)), y6, y7, sq_nx (set_ok rfl) (sq_nx (for_ok (bd_ok (cons_ok rfl rfl) (op_ok rfl)) e') ?_)⟩
  cases q : MS.place l a with
  | none =>
    rw [q] at pl
    exact sq_nx (if_f (or_f (b2T_ok (z := false) (call_ok rfl pl) rfl rfl) (and_f (b2T_ok rfl rfl rfl))) rfl) (if_f (and_f (b2T_ok rfl rfl rfl)) rfl)
  | some j =>
    rw [q] at pl
    have g := place_get q
    have hj := (List.getElem?_eq_some_iff.mp g).1
    have hr := h.rlen
    have nt := nth_ok (S := S) h.v g (Nat.lt_trans hj hr)
    have f1 := first_ok (S := S) h (many := (j : Int) + 1) (by omega)
    have f2 := lfirst_ok (S := S) (l := l) ((j : Int) + 1) h.all (by omega)
    have f3 := joined_ok (S := S) (MS.beg l ((j : Int) + 1)) (by have := MS.beg_len l ((j : Int) + 1); omega)
    rw [beg_same h.v.nd (by omega)] at f3
    refine sq_nx (if_f (or_f (b2T_ok (z := false) (call_ok rfl pl) rfl ?_) (and_t (b2T_ok (z := true) rfl rfl rfl) (b2T_ok (z := false) (call_ok rfl nt) rfl ?_))) rfl) (if_f (and_t (b2T_ok (z := true) rfl rfl rfl) (b2T_ok (z := false) (frz_ok (callL_ok (cons_ok rfl (cons_ok (b2_ok rfl rfl rfl) rfl)) f1)) (call_ok (cons_ok (call_ok (cons_ok rfl (cons_ok (b2_ok rfl rfl rfl) rfl)) f2) rfl) f3) ?_)) rfl)
    · show dNe (.int (j : Nat)) (.int (j : Nat)) S = _
      rw [dNe_int, decide_eq_true rfl]
      rfl
    · rw [dNe_int, decide_eq_true rfl]
      rfl
    · rw [dNe_ps, decide_eq_true rfl]
      rfl
end
end K04
end
section
set_option maxHeartbeats 4000000
namespace K04
open PySem PySem.Spec L2 DL
open PyProof.Rows hiding St
open MS (P Valid)
section
variable {S : Cells}
theorem ix_is {l : List Int} {k : Int} {j : Nat} {a : Int} (hk : k = (j : Nat)) (e : l[j]? = some a) : ixD (.lst (l.map .int)) (.int k) S = some (.int a) := ix_lst hk (by rw [List.getElem?_map, e]; rfl)
theorem addrs_loop {l : List P} (h : Big WB l) (v0 v3 x8 x9 x10 x11 x12 x13 x14 : Option D) : ∀ (as : List Int) (x4 x5 x6 x7 : Option D), (∀ a ∈ as, 0 ≤ a) → ∃ y4 y5 y6 y7, forD (.nm 4) L2__law_right (as.map .int) [v0, some (.lst (l.map encP)), some (.lst ((l.map (fun p => MS.dist p.2 p.1 + 1)).map .int)), v3, x4, x5, x6, x7, x8, x9, x10, x11, x12, x13, x14] S = .nx [v0, some (.lst (l.map encP)), some (.lst ((l.map (fun p => MS.dist p.2 p.1 + 1)).map .int)), v3, y4, y5, y6, y7, x8, x9, x10, x11, x12, x13, x14] S
  | [], x4, x5, x6, x7, _ => ⟨x4, x5, x6, x7, rfl⟩
  | a :: as, x4, x5, x6, x7, ha => by
    obtain ⟨z5, z6, z7, e1⟩ := addr_ok (S := S) h a (ha a List.mem_cons_self) v0 v3 x5 x6 x7 x8 x9 x10 x11 x12 x13 x14
    obtain ⟨y4, y5, y6, y7, e2⟩ := addrs_loop h v0 v3 x8 x9 x10 x11 x12 x13 x14 as (some (.int a)) z5 z6 z7 fun b hb => ha b (List.mem_cons_of_mem _ hb)
    exact ⟨y4, y5, y6, y7, for_cons rfl e1 e2⟩
theorem tops_loop {l : List P} (h : Big WB l) {nb : Nat} (v2 v4 v5 v6 v7 x13 x14 : Option D) (ms : List Int) (hm : ∀ a ∈ ms, 0 ≤ a) (hm2 : 2 ≤ ms.length) (hm3 : ms.length ≤ 1000) : ∀ (is : List D) (k : Nat) (x8 x9 x10 x11 x12 : Option D) (S : Cells), Bag S nb k → k + 2 * is.length ≤ 100000 →
    ∃ y8 y9 y10 y11 y12 S', forD (.nm 8) L3__law_right is [some (.ref nb), some (.lst (l.map encP)), v2, some (.lst (ms.map .int)), v4, v5, v6, v7, x8, x9, x10, x11, x12, x13, x14] S = .nx [some (.ref nb), some (.lst (l.map encP)), v2, some (.lst (ms.map .int)), v4, v5, v6, v7, y8, y9, y10, y11, y12, x13, x14] S' ∧ Bag S' nb (k + 2 * is.length) ∧ S.length ≤ S'.length
  | [], k, x8, x9, x10, x11, x12, S, hb, _ => ⟨x8, x9, x10, x11, x12, S, rfl, hb, Nat.le_refl _⟩
  | i :: is, k, x8, x9, x10, x11, x12, S, hb, hk => by
    have zz := z24
    have hz := h.z
    rw [List.length_cons] at hk
    obtain ⟨v, S1, e1, p0, p1, bg1, m1⟩ := pick_ok hb (by omega) (m := (ms.length : Nat)) (by omega) (by omega)
    obtain ⟨u, S2, e2, q0, q1, bg2, m2⟩ := pick_ok bg1 (by omega) (m := (ms.length : Nat)) (by omega) (by omega)
    obtain ⟨a, ea⟩ : ∃ a, ms[v.toNat]? = some a := ⟨_, List.getElem?_eq_getElem (by omega)⟩
    obtain ⟨b, eb⟩ : ∃ b, ms[u.toNat]? = some b := ⟨_, List.getElem?_eq_getElem (by omega)⟩
    have ha : 0 ≤ a := hm a (List.mem_of_getElem? ea)
    have hb0 : 0 ≤ b := hm b (List.mem_of_getElem? eb)
    let q : P := (a, b)
    have hmm : 0 ≤ (mm q).1 := by
      show 0 ≤ (if b < a then b else a)
      split <;> omega
    have hle := mm_le q
    have c1 := MS.cut_in (lo := (mm q).1) (hi := (mm q).2) h.all
    have top := on_top_ok (S := S2) h (q := q) ⟨ha, hb0⟩
    have lc := lcut_ok (S := S2) l (mm q).1 (mm q).2 hz
    have wo := without_ok (S := S2) h hmm hle
    have j1 := joined_ok (S := S2) (q :: MS.cutL l (mm q).1 (mm q).2) (by rw [List.length_cons]; omega)
    have j2 := joined_ok (S := S2) (MS.cutL l (mm q).1 (mm q).2) (by omega)
    have hlen : (ms.map D.int).length = ms.length := List.length_map _
    have e1' : g__law_pick [.ref nb, .int ((ms.map D.int).length : Nat)] S = .ok (.int v) S1 := by rw [hlen]; exact e1
    have e2' : g__law_pick [.ref nb, .int ((ms.map D.int).length : Nat)] S1 = .ok (.int u) S2 := by rw [hlen]; exact e2
    obtain ⟨y8, y9, y10, y11, y12, S', e, hb', hl⟩ := tops_loop h v2 v4 v5 v6 v7 x13 x14 ms hm hm2 hm3 is (k + 2) (some i) (some (.int a)) (some (.int b)) (some (.int (mm q).1)) (some (.int (mm q).2)) S2 bg2 (by omega)
    refine ⟨y8, y9, y10, y11, y12, S', for_cons rfl (sq_nx (par_ok (cons_ok (b2_ok rfl (call_ok (cons_ok rfl (cons_ok (cb_ok rfl rfl) rfl)) e1') (ix_is (j := v.toNat) (by omega) ea)) (cons_ok (b2_ok rfl (call_ok (cons_ok rfl (cons_ok (cb_ok rfl rfl) rfl)) e2') (ix_is (j := u.toNat) (by omega) eb)) rfl)))
      (sq_nx (par_ok (d := .int (mm q).1) (e := .int (mm q).2) (cons_ok (cb_ok rfl rfl) (cons_ok (cb_ok rfl rfl) rfl)))
      (sq_nx (if_f (b2T_ok (z := false) (frz_ok (callL_ok (cons_ok rfl (cons_ok (tup_ok rfl (show 2 ≤ sizeLine by decide)) rfl)) top)) (call_ok (cons_ok (b2_ok (frz_ok (lst_ok (cons_ok (tup_ok rfl (show 2 ≤ sizeLine by decide)) rfl) (show 1 ≤ sizeLine by decide))) (call_ok rfl lc) (dAdd_lst ?_)) rfl) j1) ?_) rfl)
      (if_f (b2T_ok (z := false) (frz_ok (callL_ok rfl wo)) (call_ok (cons_ok (call_ok rfl lc) rfl) j2) ?_) rfl)))) e, hb'.mono (by rw [List.length_cons]; omega), by have := m1.1; have := m2.1; omega⟩
    · rw [List.length_map]
      show 1 + _ ≤ _
      omega
    · rw [dNe_ps, decide_eq_true rfl]
      rfl
    · rw [dNe_ps, decide_eq_true rfl]
      rfl
theorem dNe_two (A : List P) (n : Int) : dNe (.lst [.lst (A.map encP), .int n]) (.lst [.lst (A.map encP), .int n]) S = some (.bl false) := by
  have ev : vw S (.lst [.lst (A.map encP), .int n]) = some (.list [.list (A.map pyP), .int n]) := by
    unfold vw
    rw [resv_flat _ _ _ (by rw [flat_lst]; unfold flatL; simp [flat_ps])]
    show (match toPyL [D.lst (A.map encP), .int n] with
      | some m => some (PyData.list m)
      | none => none) = _
    have e2 : toPyL [D.lst (A.map encP), .int n] = some [.list (A.map pyP), .int n] := by
      unfold toPyL toPy
      rw [toPyP]
      rfl
    rw [e2]
  have sh : SeqAt.shaped (.list [.list (A.map pyP), .int n]) = true := by
    show ((PyData.canLayAll0 (A.map pyP) && (true && true)) && decide (max (PyData.depthAll (A.map pyP) + 1) (max 0 0) + 1 ≤ 64)) = true
    rw [lay_ps, decide_eq_true (by have := depth_ps A; omega)]
    rfl
  show (eqP _ _ S).map (fun b => D.bl (!b)) = _
  rw [eqP_of ev ev sh sh]
  show some (D.bl (!(PyData.eqvAll (A.map pyP) (A.map pyP) && ((n == n) && true)))) = _
  rw [eqv_ps, decide_eq_true rfl]
  simp
theorem right_ok {l : List P} {nb k : Nat} (hb : Bag S nb k) (hk : k ≤ 80000) (h : Big WB l) : ∃ S', g__law_right [.ref nb, .lst (l.map encP)] S = .ok (.bl true) S' ∧ Bag S' nb (k + 100) := by
  have zz := z24
  have hz := h.z
  obtain ⟨ms, S1, e1, hm, hm2, hm3, bg1⟩ := marks_ok (S := S) h hb (by omega)
  let ss : List Int := l.map (fun p => MS.dist p.2 p.1 + 1)
  have esum : ss.sum = ((MS.reads l).length : Nat) := (MS.reads_len l).symm
  have rv : g__law_joined [.lst ((MS.rev l).map encP)] S = .ok (.lst ((MS.rev (MS.tid l)).map encP)) S := by
    rw [joined_ok (MS.rev l) (by unfold MS.rev; rw [List.length_reverse, List.length_map]; omega), MS.tid_rev]
  obtain ⟨y4, y5, y6, y7, e2⟩ := addrs_loop (S := S1) h (some (.ref nb)) (some (.lst (ms.map .int))) none none none none none none none ms none none none none hm
  obtain ⟨z8, z9, z10, z11, z12, S2, e3, bg2, hl2⟩ := tops_loop h (some (.lst (ss.map .int))) y4 y5 y6 y7 none none ms hm hm2 hm3 ((List.range 6).map fun i => D.int (i : Nat)) (k + 8) none none none none none S1 bg1 (by simp; omega)
  have td := tidy_ok (S := S) h.v (by omega)
  have ct := count_ok (S := S) h.v
  have tn := turned_ok (S := S) h.v (by omega)
  have jn := joined_ok (S := S) l (by omega)
  refine ⟨_, body_rt' (S1 := S2) (sq_nx (set_ok (d := .lst (ss.map .int)) (frz_ok (lc_mk (S1 := S) (S2 := S) (l := ss.map .int) rfl ?_)))
    (sq_nx (if_f (b2T_ok (z := false) (frz_ok (lst_ok (cons_ok (frz_ok (callL_ok rfl td)) (cons_ok (call_ok rfl ct) rfl)) (show 2 ≤ sizeLine by decide))) (frz_ok (lst_ok (cons_ok (call_ok rfl jn) (cons_ok (cb_ok rfl (sum_ints ss)) rfl)) (show 2 ≤ sizeLine by decide))) ?_) rfl)
    (sq_nx (if_f (b2T_ok (z := false) (frz_ok (callL_ok rfl tn)) (call_ok (cons_ok (frz_ok (lc_mk (S1 := S) (S2 := S) (items := l.reverse.map encP) (l := (MS.rev l).map encP) (itS_ok (frz_ok (bd_ok rfl (op_ok rfl))) (by rw [List.map_reverse]; rfl)) ?_)) rfl) rv) ?_) rfl)
    (sq_nx (set_ok (call_ok rfl e1)) (sq_nx (for_ok (itS_ok rfl rfl) e2) (sq_nx (for_ok (itR1_ok rfl (range1_ok (n := 6) (by decide))) e3) (ret_ok rfl))))))) (by simp), (bag_take bg2 hb.lt).mono (by simp)⟩
  · show compD _ _ _ _ (l.map encP) S = .ok ((l.map (fun p => MS.dist p.2 p.1 + 1)).map D.int) S
    rw [List.map_map]
    exact comp_map encP _ l fun p _ => ⟨_, rfl, call_ok rfl (lsize_ok p)⟩
  · rw [esum]
    exact dNe_two _ _
  · have er : (MS.rev l).map encP = l.reverse.map (encP ∘ MS.swp) := by
      unfold MS.rev
      rw [← List.map_reverse, List.map_map]
    rw [er]
    exact comp_map encP (encP ∘ MS.swp) _ fun p _ => ⟨_, rfl, tup_ok rfl (show 2 ≤ sizeLine by decide)⟩
  · rw [dNe_ps, decide_eq_true rfl]
    rfl
theorem pick3 {S1 : Cells} {d0 d1 d2 : D} {v : Int} (h0 : 0 ≤ v) (h1 : v < 3) : ixD (.lst [d0, d1, d2]) (.int v) S1 = some (if v = 0 then d0 else if v = 1 then d1 else d2) := by
  rcases (show v = 0 ∨ v = 1 ∨ v = 2 by omega) with e | e | e <;> subst e <;> rfl
theorem law_turns {nb : Nat} (v0 v2 : Option D) (c : Int) : ∀ (is : List Nat) (S : Cells) (k : Nat) (x4 x5 : Option D), Bag S nb k → k + 3000 * is.length ≤ 20000 → ∃ y4 y5 S', forD (.nm 4) L1_law (is.map fun i => D.int (i : Nat)) [v0, some (.int c), v2, some (.ref nb), x4, x5] S = .nx [v0, some (.int c), v2, some (.ref nb), y4, y5] S'
  | [], S, k, x4, x5, hb, hk => ⟨x4, x5, S, rfl⟩
  | i :: is, S, k, x4, x5, hb, hk => by
    rw [List.length_cons] at hk
    obtain ⟨u, S1, e1, u0, u1, bg1, mv1⟩ := pick_ok hb (by omega) (m := 3) (by decide) (by decide)
    obtain ⟨wide, hw, hw2, hw3, ew⟩ : ∃ wide : Int, 0 < wide ∧ wide.natAbs < 2 ^ 8999 ∧ wide ≤ WB ∧ ixD (.lst [.int 60, .int N30, .int (N64 * N35)]) (.int u) S1 = some (.int wide) := by
      have big : ∀ w : Int, 0 < w → w < 2 ^ 400 → w ≤ WB → ixD (.lst [.int 60, .int N30, .int (N64 * N35)]) (.int u) S1 = some (.int w) → ∃ wide : Int, 0 < wide ∧ wide.natAbs < 2 ^ 8999 ∧ wide ≤ WB ∧ ixD (.lst [.int 60, .int N30, .int (N64 * N35)]) (.int u) S1 = some (.int wide) := fun w h0 h1 h2 h3 => ⟨w, h0, Nat.lt_of_lt_of_le (lt_pow (b := 400) (by omega) h1 (Int.le_refl _)) (Nat.pow_le_pow_right (by decide) (by decide)), h2, h3⟩
      rcases (show u = 0 ∨ u = 1 ∨ u = 2 by omega) with e | e | e
      · subst e
        exact big 60 (by decide) (by decide +kernel) (by decide +kernel) rfl
      · subst e
        exact big N30 (by decide) (by decide +kernel) (by decide +kernel) rfl
      · subst e
        exact big (N64 * N35) (by decide) (by decide +kernel) (by decide +kernel) rfl
    obtain ⟨bb, ebb⟩ : ∃ bb : Bool, andE (b2 dEq (rd [v0, some (.int c), v2, some (.ref nb), some (.int (i : Nat)), some (.int wide)] 1) (kon (.int 0))) (b2 dEq (rd [v0, some (.int c), v2, some (.ref nb), some (.int (i : Nat)), some (.int wide)] 4) (kon (.int 0))) S1 = .ok (.bl bb) S1 := by
      by_cases hc : c = 0
      · exact ⟨decide (((i : Nat) : Int) = 0), andE_t (b2_ok rfl rfl (by rw [dEq_int, decide_eq_true hc])) (b2_ok rfl rfl dEq_int)⟩
      · exact ⟨false, andE_f (b2_ok rfl rfl (by rw [dEq_int, decide_eq_false hc]))⟩
    obtain ⟨many, hmany, em⟩ : ∃ many : Int, (many = 40 ∨ many = 200) ∧ ixD (.lst [.int 40, .int 200]) (.int (if bb then 1 else 0)) S1 = some (.int many) := by
      cases bb
      · exact ⟨40, .inl rfl, rfl⟩
      · exact ⟨200, .inr rfl, rfl⟩
    obtain ⟨l, S3, e3, big, bg3, mv3⟩ := list_okB bg1 (by omega) (many := many) (wide := wide) hmany hw hw2
    obtain ⟨S4, e4, bg4⟩ := right_ok bg3 (by omega) (big.mono hw3)
    obtain ⟨y4, y5, S', e⟩ := law_turns v0 v2 c is S4 (k + 1 + 2000 + 100) (some (.int (i : Nat))) (some (.int wide)) bg4 (by omega)
    exact ⟨y4, y5, S', for_cons rfl (sq_nx (set_ok (d := .int wide) (b2_ok (frz_ok (lst_ok (cons_ok rfl (cons_ok (b2_ok rfl rfl pow30) (cons_ok (b2_ok (b2_ok rfl rfl pow64) (b2_ok rfl rfl pow35) mul99) rfl))) (show 3 ≤ sizeLine by decide))) (call_ok rfl e1) ew)) (if_f (not_ok (b := true) (val_ok (call_ok (cons_ok rfl (cons_ok (call_ok (cons_ok rfl (cons_ok (b2_ok (frz_ok (lst_ok rfl (show 2 ≤ sizeLine by decide))) (cb_ok (cons_ok ebb rfl) rfl) em) (cons_ok rfl rfl))) e3) rfl)) e4) rfl)) rfl)) e⟩
theorem law_cells (v0 : Option D) : ∀ (is : List Int) (n : Nat) (S : Cells) (x1 x2 x3 x4 x5 : Option D), ∃ y1 y2 y3 y4 y5 S', forD (.tp [.nm 1, .nm 2]) L2_law (((is.map D.int).zipIdx n).map fun q => .tup [.int (q.2 : Nat), q.1]) [v0, x1, x2, x3, x4, x5] S = .nx [v0, y1, y2, y3, y4, y5] S'
  | [], n, S, x1, x2, x3, x4, x5 => ⟨x1, x2, x3, x4, x5, S, rfl⟩
  | i :: is, n, S, x1, x2, x3, x4, x5 => by
    obtain ⟨a, b, e⟩ := bag_ok (S := S) i
    have bag : Bag (S ++ [⟨true, .lst [.int a, .int b, .int 0]⟩]) S.length 0 := ⟨a, b, 0, get_new, by omega, by omega⟩
    obtain ⟨y4, y5, S', e2⟩ := law_turns v0 (some (.int i)) (n : Nat) (List.range 2) _ 0 x4 x5 bag (by simp)
    obtain ⟨z1, z2, z3, z4, z5, S'', e3⟩ := law_cells v0 is (n + 1) S' (some (.int (n : Nat))) (some (.int i)) (some (.ref S.length)) y4 y5
    exact ⟨z1, z2, z3, z4, z5, S'', for_cons rfl (sq_nx (set_ok (cel_ok (callL_ok rfl e) (by simp [flatL]))) (for_ok (itR1_ok rfl (range1_ok (n := 2) (by decide))) e2)) e3⟩
theorem law_true (ns : List Int) (h : ns.length ≤ 63) : ∃ S, g_law [.lst (ns.map .int)] [] = .ok (.bl true) S := by
  have zz := z24
  have ec : cutD (ns.map D.int) none (some 6) = (ns.take 6).map D.int := cut_some ns 6
  obtain ⟨y1, y2, y3, y4, y5, S', e⟩ := law_cells (some (.lst (ns.map .int))) (ns.take 6 ++ [0]) 0 [] none none none none none
  refine ⟨_, body_rt' (S1 := S') (sq_nx (S1 := S') (ρ1 := [some (.lst (ns.map .int)), y1, y2, y3, y4, y5]) (for_ok (bd_ok (cons_ok (b2_ok (bd_ok rfl (bd_ok rfl (bd_ok rfl (op_ok rfl)))) (frz_ok (lst_ok rfl (show 1 ≤ sizeLine by decide))) (dAdd_lst ?_)) rfl) (op_ok rfl)) ?_) (ret_ok rfl)) (by simp)⟩
  · show (cutD (ns.map D.int) none (some 6)).length + 1 ≤ sizeLine
    rw [ec, List.length_map, List.length_take]
    omega
  · show forD _ _ (enumD (cutD (ns.map D.int) none (some 6) ++ [D.int 0])) _ _ = _
    rw [ec]
    rw [List.map_append] at e
    exact e
end
end K04
end
section
set_option maxHeartbeats 0
namespace K04
open PySem PySem.Spec L2 DL
open PyProof.Rows hiding St
/-! ### the head -/
def nm0 : List Str := ["ScanError", "InvalidScan", "InvalidList", "InvalidAddress", "InvalidNumber", "InvalidIndex", "InvalidInterval", "is_int", "in_range", "is_scan", "is_list", "require_scan", "require_list", "require_address", "require_index", "require_number", "require_interval", "size_of", "total_of", "tidied", "scan_part", "common_of", "cut", "put_on_top", "reversed_list", "beginning", "tidy", "count_addresses", "turned", "place_in"]
def nm1 : List Str := ["place_of", "nth_address", "first_part", "on_top", "without", "_law_bag", "_law_pick", "_law_reads", "_law_joined", "_law_mixed", "_law_list", "_law_size", "_law_within", "_law_cut", "_law_first", "_law_marks", "_law_right"]
def nms : List Str := nm0 ++ nm1
abbrev R : PySem.W.OpenRow := PySem.W.OpenLaw.row PySem.Challenge.rw_scanmisses_k04_great_lists
abbrev hk : PySem.W.Hook := He.hookD 4 fa fn
def ob (s : PySem.W.SharedT) : He.AlD := He.obsDG 4 fa fn (HandSHeadRun.getT s)
theorem ob_eq (s : PySem.W.SharedT) : ob s = hk.obs s.abs := He.obsDG_eq (HandSHeadRun.getT_eq s)
set_option maxHeartbeats 0 in
theorem run (w : World) : HandSHeadRun.RunEq R (PySem.W.view R.prog [51]) hk ob 3520 nms w := by
  intro os
  kernel_rfl
theorem facts {P : Program} {w : World} {K : PySem.W.Frag} {h : Heap} {mg : Str → Option Value} {f : Addr} (X : K.In h) (G : h.Ns mainGlobals mg) (hfa : mg ("law" : Str) = some (.ref f)) (c : He.SaysD fa fn K) :
    ∃ (K' : PySem.W.Frag) (fd : FuncData) (T : Tab), K'.In h ∧ (∀ (s : Shared) (v : Value), BindsTo s fd ⟨[v], []⟩ [("script", v)]) ∧ ∀ base : Heap, K'.In base → base.Ns mainGlobals mg → FnG P w K' mg base 8 f fd ["script"] (spD K' T 1 g_law) := by
  obtain ⟨fd, F⟩ := c.def_ 39 (d := d_law) rfl
  have e := hfa.symm.trans (He.glo_ok X G (c.fact 39 (f := .glo "law") rfl))
  cases e
  have b := FunD.bindsA (ps := ["script"]) F fun _ _ _ _ _ _ us hl => match us, hl with | [_], _ => rfl
  refine ⟨K, fd, ⟨fun _ => 0, fun _ => []⟩, X, fun s v => b s [v] rfl, fun base _ _ => ?_⟩
  exact fnG_law X G c fd F
end K04
open PySem PySem.W PySem.Calls PyProof.Rows
theorem PySem.Challenge.cw_scanmisses_k04_great_lists_holds : PySem.Challenge.rw_scanmisses_k04_great_lists.Holds := by
  w_on; o_law
  refine HandSHeadRun.head_any (r := OpenLaw.row PySem.Challenge.rw_scanmisses_k04_great_lists) (q := view (OpenLaw.row PySem.Challenge.rw_scanmisses_k04_great_lists).prog [51]) (H := K04.hk) (ob := K04.ob) (M := 3520) (loose := K04.nms) (d := HandSHeadRun.topDef (OpenLaw.row PySem.Challenge.rw_scanmisses_k04_great_lists).prog 51) (kwd := []) K04.ob_eq
    (by kernel_rfl) (fun s => by kernel_rfl) K04.run (by kernel_rfl) (by kernel_rfl) (by kernel_rfl) (by rfl) (by first | assumption | decide +kernel) (by decide +kernel) ⟨rfl, rfl, rfl, rfl, rfl, by decide +kernel⟩ ?hw ?hc
  case hw => w_witness2
  case hc =>
    refine DL.walk_D (l := PySem.Challenge.rw_scanmisses_k04_great_lists) (n := 63) (k := 8) (x := "script") (g := K04.g_law) rfl (by decide) (by kernel_rfl) ⟨rfl, by decide, by decide⟩ ?F K04.law_true
    intro w mg fa h Y G hmg0
    obtain ⟨K, KX, c⟩ := Y
    have hmg : mg ("law" : PySem.Str) = some (.ref fa) := by
      have e : (HandSHeadRun.topDef (OpenLaw.row PySem.Challenge.rw_scanmisses_k04_great_lists).prog 51).name = ("law" : PySem.Str) := by kernel_rfl
      rw [← e]
      exact hmg0
    exact K04.facts (P := (PySem.Challenge.rw_scanmisses_k04_great_lists).prog) (w := w) KX G hmg c
end
