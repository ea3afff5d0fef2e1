import PyProof.Rows.All
import Wide.All
import OpenK.AllK
import Wide.FinOn
import HandS.ForMost
import HandS.Walk
import HandS.Flow
import HandS.Defaults
import HandS.TupAny
import HandS.TupLe
import HandS.IsInst
import HandS.Wide
import HandS.SortInts
import HandS.SortRule
import HandS.Style
import HandS.Conv
import HandS.SetFor
import HandS.Strs
import KE.DatumOrd
import KE.DatumMoreOrd
import PyProof.ReprReads
import HandS.More
import HandS.Ends
import HandS.Head0
import HandS.Head1
import HandS.Head2
import HandS.HeadEnd
import HandS.HeadHook1
import HandS.HeadHook2
import HandS.Deep
import HandS.Property
import HandS.Star
import KE.KOpsOwn
import KE.KCallOwn
import HandS.StrMore
import HandS.StrSplit
import HandS.WideBits
import HandS.Zip
import PyProof.StrBlock2
import PyProof.Rows.StrMul
import KE.KxMul
import KE.DataEq
import PyProof.StrLawsRepr
import HandS.Exc
import HandS.ExcOwn
import HandS.ExcIs
import HandS.ExcValue
import HandS.WordsExc
import HandS.ExcCtx
import HandS.Hot
import HandS.HotCalls
import PyProof.StrLawsTight
import KE.KIntText
import KE.KxText
import PySem.Challenge.RW_scanmisses_k12_profiles_made_of_pieces
set_option Elab.async false
set_option linter.all false
set_option maxRecDepth 100000
section
set_option maxHeartbeats 2000000
namespace DL
open PySem PySem.Spec PyProof.Rows L2

/-- Python's data as trees; ref: a cell of the store; obj: an instance that does not change any more -/
inductive D where
  | non | bl (b : Bool) | int (i : Int) | str (x : Str)
  | tup (l : List D) | lst (l : List D) | ref (n : Nat) | obj (c : Nat) (l : List D)
  /-- things by their kind: 0 the empty dict that stays so; c + 1 an exception of the c-th class of errors, with its argument if it keeps one -/
  | ext (c : Nat) (l : List D)
/-- what a cell holds -/
inductive CC where
  | lst (l : List D) | ins (k : Nat) (fs : List (Str × D)) | dct (kvs : List (Key × D))
structure Cell where
  live : Bool
  c : CC
abbrev Cells := List Cell
/-- an exception: its class by number, its one argument -/
structure Xc where
  cls : Nat
  arg : Option D
inductive R (α : Type) where
  | ok (a : α) (S : Cells) | err (x : Xc) (S : Cells) | stuck
abbrev M (α : Type) := Cells → R α
def M.pure {α : Type} (a : α) : M α := fun S => .ok a S
def M.bind {α β : Type} (f : M α) (g : α → M β) : M β := fun S => match f S with
  | .ok a S' => g a S'
  | .err x S' => .err x S'
  | .stuck => .stuck
def stuck {α : Type} : M α := fun _ => .stuck

/-- classes by number: where they stand, their attributes' names -/
structure Tab where
  C : Nat → Addr
  N : Nat → List Str
  E : Nat → Addr := fun _ => 0

/-- at a: an exception of that class, caught or not -/
def ExA (cls : Value) (a : Addr) : HO := .ext fun h => ∃ (oe : Obj) (vs : Array Value), h.get? a = some oe ∧ oe.cls = cls ∧ oe.dict = none ∧ oe.data = .fields vs ∧ vs[2]? = some .none
mutual
inductive Rp (K : PySem.W.Frag) (T : Tab) (γ : List Addr) (F : Hp) : D → V → Prop
  | non : Rp K T γ F .non .non
  | bl (b : Bool) : Rp K T γ F (.bl b) (.bl b)
  | int (i : Int) : Rp K T γ F (.int i) (.int i)
  | str (x : Str) : x.length ≤ sizeLine → Rp K T γ F (.str x) (.str x)
  | lst {a : Addr} {ds : List D} {vs : List V} : SqL K F a vs → ds.length ≤ sizeLine → RpL K T γ F ds vs → Rp K T γ F (.lst ds) (.ref a)
  | tup {a : Addr} {ds : List D} {vs : List V} : SqT K F a vs → ds.length ≤ sizeLine → RpL K T γ F ds vs → Rp K T γ F (.tup ds) (.ref a)
  | ref {n : Nat} {a : Addr} : γ[n]? = some a → Rp K T γ F (.ref n) (.ref a)
  | obj {a dx : Addr} {c : Nat} {ds : List D} {vs : List V} : F a = some (.ins (T.C c) dx ((T.N c).zip vs)) → vs.length = (T.N c).length → RpL K T γ F ds vs → Rp K T γ F (.obj c ds) (.ref a)
  | exc {a : Addr} {c : Nat} {oe : Obj} : F a = some (.frz oe (ExA (.ref (T.E c)) a)) → Rp K T γ F (.ext (c + 1) []) (.ref a)
  | dc0 {a : Addr} : F a = some (.dK []) → Rp K T γ F (.ext 0 []) (.ref a)
inductive RpL (K : PySem.W.Frag) (T : Tab) (γ : List Addr) (F : Hp) : List D → List V → Prop
  | nil : RpL K T γ F [] []
  | cons {d : D} {ds : List D} {v : V} {vs : List V} : Rp K T γ F d v → RpL K T γ F ds vs → RpL K T γ F (d :: ds) (v :: vs)
end
section
variable {K : PySem.W.Frag} {T : Tab} {γ γ' : List Addr} {F F' : Hp}
theorem same_seqT {H H' : Hp} {a : Addr} {xs : List V} (e : Same H H') (h : SqT K H a xs) : SqT K H' a xs := by
  rcases h with (h | ⟨o, h⟩) | h
  · exact .inl (.inl (e _ _ h))
  · exact .inl (.inr ⟨o, e _ _ h⟩)
  · exact .inr h
mutual
theorem Rp.mono (hg : ∀ (n : Nat) (a : Addr), γ[n]? = some a → γ'[n]? = some a) (hs : Same F F') : ∀ (d : D) (v : V), Rp K T γ F d v → Rp K T γ' F' d v
  | .non, _, h => by cases h; exact .non
  | .bl _, _, h => by cases h; exact .bl _
  | .int _, _, h => by cases h; exact .int _
  | .str _, _, h => by cases h with | str x z => exact .str _ z
  | .lst ds, _, h => by cases h with | lst a z b => exact .lst (hs.seq a) z (RpL.mono hg hs ds _ b)
  | .tup ds, _, h => by cases h with | tup a z b => exact .tup (same_seqT hs a) z (RpL.mono hg hs ds _ b)
  | .ref n, _, h => by cases h with | ref a => exact .ref (hg _ _ a)
  | .obj c ds, _, h => by cases h with | obj a b e => exact .obj (hs _ _ a) b (RpL.mono hg hs ds _ e)
  | .ext c ds, _, h => by
    cases h with
    | exc a => exact .exc (hs _ _ a)
    | dc0 a => exact .dc0 (hs _ _ a)
theorem RpL.mono (hg : ∀ (n : Nat) (a : Addr), γ[n]? = some a → γ'[n]? = some a) (hs : Same F F') : ∀ (ds : List D) (vs : List V), RpL K T γ F ds vs → RpL K T γ' F' ds vs
  | [], _, h => by cases h; exact .nil
  | d :: ds, _, h => by cases h with | cons a b => exact .cons (Rp.mono hg hs d _ a) (RpL.mono hg hs ds _ b)
end
theorem RpL.length : ∀ {ds : List D} {vs : List V}, RpL K T γ F ds vs → ds.length = vs.length
  | [], _, h => by cases h; rfl
  | d :: ds, _, h => by cases h with | cons a b => simp [RpL.length b]
theorem RpL.get : ∀ {ds : List D} {vs : List V} {i : Nat} {d : D}, RpL K T γ F ds vs → ds[i]? = some d → ∃ v, vs[i]? = some v ∧ Rp K T γ F d v
  | [], _, _, _, _, h => by simp at h
  | d :: ds, _, 0, _, h, e => by
    cases h with
    | cons a b =>
      rw [List.getElem?_cons_zero] at e
      cases e
      exact ⟨_, rfl, a⟩
  | d :: ds, _, i + 1, _, h, e => by
    cases h with
    | cons a b => exact RpL.get b (i := i) (by simpa using e)
theorem RpL.get' : ∀ {ds : List D} {vs : List V} {i : Nat} {v : V}, RpL K T γ F ds vs → vs[i]? = some v → ∃ d, ds[i]? = some d ∧ Rp K T γ F d v := by
  intro ds vs i v h e
  have hl := h.length
  have hi : i < ds.length := by
    have := (List.getElem?_eq_some_iff.mp e).1
    omega
  obtain ⟨v', e', r⟩ := h.get (List.getElem?_eq_getElem hi)
  rw [e] at e'
  cases e'
  exact ⟨_, List.getElem?_eq_getElem hi, r⟩
theorem RpL.append : ∀ {ds es : List D} {vs ws : List V}, RpL K T γ F ds vs → RpL K T γ F es ws → RpL K T γ F (ds ++ es) (vs ++ ws)
  | [], _, _, _, h, q => by cases h; exact q
  | d :: ds, _, _, _, h, q => by cases h with | cons a b => exact .cons a (RpL.append b q)
theorem RpL.one {d : D} {v : V} (h : Rp K T γ F d v) : RpL K T γ F [d] [v] := .cons h .nil
theorem RpL.take : ∀ {ds : List D} {vs : List V} (n : Nat), RpL K T γ F ds vs → RpL K T γ F (ds.take n) (vs.take n)
  | _, _, 0, _ => .nil
  | [], _, _ + 1, h => by cases h; exact .nil
  | d :: ds, _, n + 1, h => by cases h with | cons a b => exact .cons a (RpL.take n b)
theorem RpL.drop : ∀ {ds : List D} {vs : List V} (n : Nat), RpL K T γ F ds vs → RpL K T γ F (ds.drop n) (vs.drop n)
  | _, _, 0, h => h
  | [], _, _ + 1, h => by cases h; exact .nil
  | d :: ds, _, n + 1, h => by cases h with | cons a b => exact RpL.drop n b
theorem RpL.set {d : D} {v : V} (r : Rp K T γ F d v) : ∀ {ds : List D} {vs : List V} (i : Nat), RpL K T γ F ds vs → RpL K T γ F (ds.set i d) (vs.set i v)
  | [], _, _, h => by cases h; exact .nil
  | e :: ds, _, 0, h => by cases h with | cons a b => exact .cons r b
  | e :: ds, _, i + 1, h => by cases h with | cons a b => exact .cons a (RpL.set r i b)
theorem RpL.reverse {ds : List D} {vs : List V} (h : RpL K T γ F ds vs) : RpL K T γ F ds.reverse vs.reverse := by
  induction ds generalizing vs with
  | nil => cases h; exact .nil
  | cons d ds ih =>
    cases h with
    | cons a b =>
      rw [List.reverse_cons, List.reverse_cons]
      exact (ih b).append (.one a)
theorem RpL.flatten (n : Nat) {ds : List D} {vs : List V} (h : RpL K T γ F ds vs) : RpL K T γ F (List.replicate n ds).flatten (List.replicate n vs).flatten := by
  induction n with
  | zero => exact .nil
  | succ n ih =>
    rw [List.replicate_succ, List.replicate_succ, List.flatten_cons, List.flatten_cons]
    exact h.append ih
/-- the ints of a list -/
def ints? : List D → Option (List Int)
  | [] => some []
  | .int i :: r => (ints? r).map (i :: ·)
  | _ => none
theorem ints?_map (ns : List Int) : ints? (ns.map .int) = some ns := by
  induction ns with
  | nil => rfl
  | cons n ns ih => rw [List.map_cons]; show (ints? _).map _ = _; rw [ih]; rfl
theorem ints?_rep : ∀ {ds : List D} {vs : List V} {ns : List Int}, RpL K T γ F ds vs → ints? ds = some ns → vs = ns.map V.int ∧ ds = ns.map D.int
  | [], _, ns, h, e => by
    cases h
    cases e
    exact ⟨rfl, rfl⟩
  | .int i :: ds, _, ns, h, e => by
    cases h with
    | cons a b =>
      cases a
      have e' : (ints? ds).map (i :: ·) = some ns := e
      cases q : ints? ds with
      | none => rw [q] at e'; cases e'
      | some ms =>
        rw [q] at e'
        cases e'
        obtain ⟨h1, h2⟩ := ints?_rep b q
        rw [h1, h2]
        exact ⟨rfl, rfl⟩
  | .non :: ds, _, ns, h, e => nomatch e
  | .bl _ :: ds, _, ns, h, e => nomatch e
  | .str _ :: ds, _, ns, h, e => nomatch e
  | .tup _ :: ds, _, ns, h, e => nomatch e
  | .lst _ :: ds, _, ns, h, e => nomatch e
  | .ref _ :: ds, _, ns, h, e => nomatch e
  | .obj _ _ :: ds, _, ns, h, e => nomatch e
  | .ext _ _ :: ds, _, ns, h, e => nomatch e
theorem rep_ints : ∀ (ns : List Int), RpL K T γ F (ns.map D.int) (ns.map V.int)
  | [] => .nil
  | n :: ns => .cons (.int n) (rep_ints ns)
/-- the bools of a list -/
def bls? : List D → Option (List Bool)
  | [] => some []
  | .bl i :: r => (bls? r).map (i :: ·)
  | _ => none
theorem bls?_map (ns : List Bool) : bls? (ns.map .bl) = some ns := by
  induction ns with
  | nil => rfl
  | cons n ns ih => rw [List.map_cons]; show (bls? _).map _ = _; rw [ih]; rfl
theorem bls?_rep : ∀ {ds : List D} {vs : List V} {ns : List Bool}, RpL K T γ F ds vs → bls? ds = some ns → vs = ns.map V.bl ∧ ds = ns.map D.bl
  | [], _, ns, h, e => by
    cases h
    cases e
    exact ⟨rfl, rfl⟩
  | .bl i :: ds, _, ns, h, e => by
    cases h with
    | cons a b =>
      cases a
      have e' : (bls? ds).map (i :: ·) = some ns := e
      cases q : bls? ds with
      | none => rw [q] at e'; cases e'
      | some ms =>
        rw [q] at e'
        cases e'
        obtain ⟨h1, h2⟩ := bls?_rep b q
        rw [h1, h2]
        exact ⟨rfl, rfl⟩
  | .non :: ds, _, ns, h, e => nomatch e
  | .int _ :: ds, _, ns, h, e => nomatch e
  | .str _ :: ds, _, ns, h, e => nomatch e
  | .tup _ :: ds, _, ns, h, e => nomatch e
  | .lst _ :: ds, _, ns, h, e => nomatch e
  | .ref _ :: ds, _, ns, h, e => nomatch e
  | .obj _ _ :: ds, _, ns, h, e => nomatch e
  | .ext _ _ :: ds, _, ns, h, e => nomatch e
/-- no cell is named in it -/
def D.flat : D → Bool
  | .ref _ => false
  | .lst l => l.attach.all fun ⟨d, _⟩ => d.flat
  | .tup l => l.attach.all fun ⟨d, _⟩ => d.flat
  | .obj _ l => l.attach.all fun ⟨d, _⟩ => d.flat
  | .ext _ l => l.attach.all fun ⟨d, _⟩ => d.flat
  | _ => true
def flatL (l : List D) : Bool := l.all D.flat
theorem flat_lst (l : List D) : (D.lst l).flat = flatL l := by
  unfold D.flat flatL
  simp
theorem flat_tup (l : List D) : (D.tup l).flat = flatL l := by
  unfold D.flat flatL
  simp
theorem flat_obj (c : Nat) (l : List D) : (D.obj c l).flat = flatL l := by
  unfold D.flat flatL
  simp
@[simp] theorem flat_non : D.non.flat = true := by simp [D.flat]
@[simp] theorem flat_bl (b : Bool) : (D.bl b).flat = true := by simp [D.flat]
@[simp] theorem flat_int (b : Int) : (D.int b).flat = true := by simp [D.flat]
@[simp] theorem flat_str (b : Str) : (D.str b).flat = true := by simp [D.flat]
@[simp] theorem flat_ref (b : Nat) : (D.ref b).flat = false := by simp [D.flat]
theorem flatL_cons (d : D) (l : List D) : flatL (d :: l) = (d.flat && flatL l) := rfl
mutual
theorem Rp.toflat : ∀ (d : D) (v : V), d.flat = true → Rp K T γ F d v → Rp K T [] F d v
  | .non, _, _, h => by cases h; exact .non
  | .bl _, _, _, h => by cases h; exact .bl _
  | .int _, _, _, h => by cases h; exact .int _
  | .str _, _, _, h => by cases h with | str x z => exact .str _ z
  | .lst ds, _, f, h => by cases h with | lst a z b => exact .lst a z (RpL.toflat ds _ (by rw [flat_lst] at f; exact f) b)
  | .tup ds, _, f, h => by cases h with | tup a z b => exact .tup a z (RpL.toflat ds _ (by rw [flat_tup] at f; exact f) b)
  | .ref n, _, f, h => by simp at f
  | .obj c ds, _, f, h => by cases h with | obj a b e => exact .obj a b (RpL.toflat ds _ (by rw [flat_obj] at f; exact f) e)
  | .ext c ds, _, f, h => by
    cases h with
    | exc a => exact .exc a
    | dc0 a => exact .dc0 a
theorem RpL.toflat : ∀ (ds : List D) (vs : List V), flatL ds = true → RpL K T γ F ds vs → RpL K T [] F ds vs
  | [], _, _, h => by cases h; exact .nil
  | d :: ds, _, f, h => by
    rw [flatL_cons, Bool.and_eq_true] at f
    cases h with | cons a b => exact .cons (Rp.toflat d _ f.1 a) (RpL.toflat ds _ f.2 b)
end
theorem Rp.nil_any (hs : Same F F') {d : D} {v : V} (h : Rp K T [] F d v) : Rp K T γ F' d v := Rp.mono (by simp) hs d v h
theorem RpL.nil_any (hs : Same F F') {d : List D} {v : List V} (h : RpL K T [] F d v) : RpL K T γ F' d v := RpL.mono (by simp) hs d v h
end

def liveAt (γ : List Addr) (S : Cells) (b : Addr) : Bool := (γ.zip S).any fun p => decide (p.1 = b) && p.2.live
theorem liveAt_iff {γ : List Addr} {S : Cells} {b : Addr} : liveAt γ S b = true ↔ ∃ (n : Nat) (c : Cell), γ[n]? = some b ∧ S[n]? = some c ∧ c.live = true := by
  unfold liveAt
  rw [List.any_eq_true]
  constructor
  · rintro ⟨p, hp, h⟩
    obtain ⟨n, hn⟩ := List.mem_iff_getElem?.mp hp
    rw [List.getElem?_zip_eq_some] at hn
    simp only [Bool.and_eq_true, decide_eq_true_eq] at h
    exact ⟨n, p.2, by rw [hn.1, h.1], hn.2, h.2⟩
  · rintro ⟨n, c, h1, h2, h3⟩
    refine ⟨(b, c), List.mem_iff_getElem?.mpr ⟨n, ?_⟩, by simp [h3]⟩
    rw [List.getElem?_zip_eq_some]
    exact ⟨h1, h2⟩
/-- the heap without the live cells and what is hidden -/
def out (γ : List Addr) (S : Cells) (hid : List Addr) (H : Hp) : Hp := fun b => if (decide (b ∈ hid) || liveAt γ S b) = true then none else H b
theorem out_sub (γ : List Addr) (S : Cells) (hid : List Addr) (H : Hp) : Same (out γ S hid H) H := fun b o h => by
  unfold out at h
  split at h
  · cases h
  · exact h
theorem out_some {γ : List Addr} {S : Cells} {hid : List Addr} {H : Hp} {b : Addr} {o : HO} : out γ S hid H b = some o ↔ b ∉ hid ∧ liveAt γ S b = false ∧ H b = some o := by
  unfold out
  by_cases h1 : b ∈ hid
  · simp [h1]
  · cases h2 : liveAt γ S b <;> simp [h1]
/-- what a cell's object is -/
inductive CRep (K : PySem.W.Frag) (T : Tab) (F : Hp) : CC → HO → Prop
  | lst {l : List D} {vs : List V} : l.length ≤ sizeLine → RpL K T [] F l vs → CRep K T F (.lst l) (.lst vs)
  | ins {k : Nat} {dx : Addr} {fs : List (Str × D)} {gs : List (Str × V)} : fs.map (·.1) = gs.map (·.1) → RpL K T [] F (fs.map (·.2)) (gs.map (·.2)) → CRep K T F (.ins k fs) (.ins (T.C k) dx gs)
  | dct {kvs : List (Key × D)} {gs : List (Key × V)} : kvs.map (·.1) = gs.map (·.1) → RpL K T [] F (kvs.map (·.2)) (gs.map (·.2)) → CRep K T F (.dct kvs) (.dK gs)
theorem CRep.mono {K : PySem.W.Frag} {T : Tab} {F F' : Hp} {c : CC} {o : HO} (hs : Same F F') (h : CRep K T F c o) : CRep K T F' c o := by
  cases h with
  | lst z r => exact .lst z (r.nil_any hs)
  | ins e r => exact .ins e (r.nil_any hs)
  | dct e r => exact .dct e (r.nil_any hs)
structure Hold (K : PySem.W.Frag) (T : Tab) (γ hid : List Addr) (S : Cells) (H : Hp) : Prop where
  len : γ.length = S.length
  nd : γ.Nodup
  cell : ∀ (n : Nat) (a : Addr) (c : Cell), γ[n]? = some a → S[n]? = some c → ∃ o, H a = some o ∧ CRep K T (out γ S hid H) c.c o
  hidT : ∀ a ∈ hid, H a ≠ none
  hidG : ∀ a ∈ hid, a ∉ γ
structure Ext (γ : List Addr) (S : Cells) (H : Hp) (γ' : List Addr) (S' : Cells) (H' : Hp) : Prop where
  pre : ∀ (n : Nat) (a : Addr), γ[n]? = some a → γ'[n]? = some a
  same : Same (out γ S [] H) (out γ' S' [] H')
theorem Ext.refl (γ : List Addr) (S : Cells) (H : Hp) : Ext γ S H γ S H := ⟨fun _ _ h => h, Same.refl _⟩
theorem Ext.trans {γ γ1 γ2 : List Addr} {S S1 S2 : Cells} {H H1 H2 : Hp} (a : Ext γ S H γ1 S1 H1) (b : Ext γ1 S1 H1 γ2 S2 H2) : Ext γ S H γ2 S2 H2 :=
  ⟨fun n x h => b.pre n x (a.pre n x h), a.same.trans b.same⟩
theorem Ext.sameH {γ γ' : List Addr} {S S' : Cells} {H H' : Hp} (e : Ext γ S H γ' S' H') (hid : List Addr) : Same (out γ S hid H) (out γ' S' hid H') := fun b o h => by
  obtain ⟨h1, h2, h3⟩ := out_some.mp h
  obtain ⟨_, q2, q3⟩ := out_some.mp (e.same b o (out_some.mpr ⟨by simp, h2, h3⟩))
  exact out_some.mpr ⟨h1, q2, q3⟩
theorem Ext.rp {K : PySem.W.Frag} {T : Tab} {γ γ' hid : List Addr} {S S' : Cells} {H H' : Hp} (e : Ext γ S H γ' S' H') {d : D} {v : V} (h : Rp K T γ (out γ S hid H) d v) : Rp K T γ' (out γ' S' hid H') d v := Rp.mono e.pre (e.sameH hid) d v h
theorem Ext.rpl {K : PySem.W.Frag} {T : Tab} {γ γ' hid : List Addr} {S S' : Cells} {H H' : Hp} (e : Ext γ S H γ' S' H') {d : List D} {v : List V} (h : RpL K T γ (out γ S hid H) d v) : RpL K T γ' (out γ' S' hid H') d v := RpL.mono e.pre (e.sameH hid) d v h
/-- a hidden thing stays -/
theorem Ext.hid {K : PySem.W.Frag} {T : Tab} {γ γ' hid : List Addr} {S S' : Cells} {H H' : Hp} (e : Ext γ S H γ' S' H') (h : Hold K T γ hid S H) {a : Addr} {o : HO} (ha : a ∈ hid) (ho : H a = some o) : H' a = some o := by
  refine (out_some.mp (e.same a o (out_some.mpr ⟨by simp, ?_, ho⟩))).2.2
  cases q : liveAt γ S a with
  | false => rfl
  | true =>
    obtain ⟨n, c, h1, _, _⟩ := liveAt_iff.mp q
    exact absurd (List.mem_of_getElem? h1) (h.hidG a ha)
section
variable {K : PySem.W.Frag} {T : Tab} {γ hid : List Addr} {S : Cells} {H : Hp}
theorem Hold.at (h : Hold K T γ hid S H) {n : Nat} {c : Cell} (e : S[n]? = some c) : ∃ a, γ[n]? = some a := by
  have : n < γ.length := by
    rw [h.len]
    exact (List.getElem?_eq_some_iff.mp e).1
  exact ⟨_, List.getElem?_eq_getElem this⟩
theorem Hold.at' (h : Hold K T γ hid S H) {n : Nat} {a : Addr} (e : γ[n]? = some a) : ∃ c, S[n]? = some c := by
  have : n < S.length := by
    rw [← h.len]
    exact (List.getElem?_eq_some_iff.mp e).1
  exact ⟨_, List.getElem?_eq_getElem this⟩
theorem nd_ix {α : Type} {l : List α} (h : l.Nodup) {i j : Nat} {x : α} (a : l[i]? = some x) (b : l[j]? = some x) : i = j := by
  obtain ⟨h1, e1⟩ := List.getElem?_eq_some_iff.mp a
  obtain ⟨h2, e2⟩ := List.getElem?_eq_some_iff.mp b
  exact (List.getElem_inj h).mp (e1.trans e2.symm)
theorem Hold.live (h : Hold K T γ hid S H) {n : Nat} {a : Addr} {c : Cell} (e : γ[n]? = some a) (q : S[n]? = some c) : liveAt γ S a = c.live := by
  cases z : c.live with
  | true => exact liveAt_iff.mpr ⟨n, c, e, q, z⟩
  | false =>
    cases z2 : liveAt γ S a with
    | false => rfl
    | true =>
      obtain ⟨m, c', h1, h2, h3⟩ := liveAt_iff.mp z2
      have := nd_ix h.nd e h1
      subst this
      rw [q] at h2
      cases h2
      rw [z] at h3
      cases h3
/-- a new thing that is no cell -/
theorem Hold.fresh (h : Hold K T γ hid S H) {p : Addr} (np : H p = none) : p ∉ γ ∧ p ∉ hid := by
  refine ⟨fun hp => ?_, fun hp => h.hidT p hp np⟩
  obtain ⟨n, hn⟩ := List.mem_iff_getElem?.mp hp
  obtain ⟨c, hc⟩ := h.at' hn
  obtain ⟨o, ho, _⟩ := h.cell n p c hn hc
  rw [np] at ho
  cases ho
theorem live_no {b : Addr} (hb : b ∉ γ) : liveAt γ S b = false := by
  cases q : liveAt γ S b with
  | false => rfl
  | true =>
    obtain ⟨n, c, h1, _, _⟩ := liveAt_iff.mp q
    exact absurd (List.mem_of_getElem? h1) hb
theorem Hold.lay (h : Hold K T γ hid S H) {p : Addr} (np : H p = none) (o : HO) : Hold K T γ hid S (upd H p o) ∧ Ext γ S H γ S (upd H p o) ∧ ∀ hd, p ∉ hd → out γ S hd (upd H p o) p = some o := by
  obtain ⟨h1, h2⟩ := h.fresh np
  have sm : ∀ hd, Same (out γ S hd H) (out γ S hd (upd H p o)) := fun hd b u hb => by
    obtain ⟨a1, a2, a3⟩ := out_some.mp hb
    exact out_some.mpr ⟨a1, a2, by rw [upd_ne (ne_of_none a3 np)]; exact a3⟩
  refine ⟨⟨h.len, h.nd, fun n a c e1 e2 => ?_, fun a ha => ?_, h.hidG⟩, ⟨fun _ _ q => q, sm []⟩, fun hd hp => out_some.mpr ⟨hp, live_no h1, upd_same⟩⟩
  · obtain ⟨u, hu, r⟩ := h.cell n a c e1 e2
    exact ⟨u, by rw [upd_ne (ne_of_none hu np)]; exact hu, r.mono (sm hid)⟩
  · have : a ≠ p := fun e => h2 (e ▸ ha)
    rw [upd_ne this]
    exact h.hidT a ha
/-- a new live cell -/
theorem Hold.newCell (h : Hold K T γ hid S H) {p : Addr} (np : H p = none) {c : CC} {o : HO} (r : CRep K T (out γ S hid H) c o) :
    Hold K T (γ ++ [p]) hid (S ++ [⟨true, c⟩]) (upd H p o) ∧ Ext γ S H (γ ++ [p]) (S ++ [⟨true, c⟩]) (upd H p o) := by
  obtain ⟨h1, h2⟩ := h.fresh np
  have lv : ∀ b, b ≠ p → liveAt (γ ++ [p]) (S ++ [⟨true, c⟩]) b = liveAt γ S b := fun b hb => by
    unfold liveAt
    rw [List.zip_append h.len, List.any_append]
    simp [Ne.symm hb]
  have sm : ∀ hd, Same (out γ S hd H) (out (γ ++ [p]) (S ++ [⟨true, c⟩]) hd (upd H p o)) := fun hd b u hb => by
    obtain ⟨a1, a2, a3⟩ := out_some.mp hb
    have ne := ne_of_none a3 np
    exact out_some.mpr ⟨a1, by rw [lv b ne]; exact a2, by rw [upd_ne ne]; exact a3⟩
  refine ⟨⟨by simp [h.len], ?_, fun n a c' e1 e2 => ?_, fun a ha => ?_, fun a ha => ?_⟩, ⟨fun n a q => ?_, sm []⟩⟩
  · rw [List.nodup_append]
    refine ⟨h.nd, by simp, fun a ha b hb e => h1 ?_⟩
    have z : b = p := by simpa using hb
    rw [← z, ← e]
    exact ha
  · by_cases hn : n < γ.length
    · rw [List.getElem?_append_left hn] at e1
      rw [List.getElem?_append_left (by rw [← h.len]; exact hn)] at e2
      obtain ⟨u, hu, r'⟩ := h.cell n a c' e1 e2
      exact ⟨u, by rw [upd_ne (ne_of_none hu np)]; exact hu, r'.mono (sm hid)⟩
    · have hn' : γ.length ≤ n := by omega
      rw [List.getElem?_append_right hn'] at e1
      rw [List.getElem?_append_right (by rw [← h.len]; exact hn')] at e2
      rw [h.len] at e1
      cases q : n - S.length with
      | zero =>
        rw [q] at e1 e2
        cases e1
        cases e2
        exact ⟨o, upd_same, r.mono (sm hid)⟩
      | succ m =>
        rw [q] at e1
        simp at e1
  · have : a ≠ p := fun e => h2 (e ▸ ha)
    rw [upd_ne this]
    exact h.hidT a ha
  · intro hm
    rcases List.mem_append.mp hm with hm | hm
    · exact h.hidG a ha hm
    · have : a = p := by simpa using hm
      exact h2 (this ▸ ha)
  · exact (List.getElem?_append_left (List.getElem?_eq_some_iff.mp q).1).trans q
/-- a live cell is changed -/
theorem Hold.write (h : Hold K T γ hid S H) {n : Nat} {a : Addr} {c c' : CC} {o : HO} (e : γ[n]? = some a) (q : S[n]? = some ⟨true, c⟩) (r : CRep K T (out γ S hid H) c' o) :
    Hold K T γ hid (S.set n ⟨true, c'⟩) (upd H a o) ∧ Ext γ S H γ (S.set n ⟨true, c'⟩) (upd H a o) := by
  have hn : n < S.length := (List.getElem?_eq_some_iff.mp q).1
  have lv : ∀ b, liveAt γ (S.set n ⟨true, c'⟩) b = liveAt γ S b := fun b => by
    apply Bool.eq_iff_iff.mpr
    rw [liveAt_iff, liveAt_iff]
    constructor
    · rintro ⟨m, d, h1, h2, h3⟩
      by_cases hm : n = m
      · subst hm
        exact ⟨n, _, h1, q, rfl⟩
      · rw [List.getElem?_set_ne hm] at h2
        exact ⟨m, d, h1, h2, h3⟩
    · rintro ⟨m, d, h1, h2, h3⟩
      by_cases hm : n = m
      · subst hm
        exact ⟨n, _, h1, List.getElem?_set_self hn, rfl⟩
      · exact ⟨m, d, h1, by rw [List.getElem?_set_ne hm]; exact h2, h3⟩
  have la : liveAt γ S a = true := liveAt_iff.mpr ⟨n, _, e, q, rfl⟩
  have sm : ∀ hd, Same (out γ S hd H) (out γ (S.set n ⟨true, c'⟩) hd (upd H a o)) := fun hd b u hb => by
    obtain ⟨a1, a2, a3⟩ := out_some.mp hb
    have ne : b ≠ a := fun z => by rw [z, la] at a2; cases a2
    exact out_some.mpr ⟨a1, by rw [lv b]; exact a2, by rw [upd_ne ne]; exact a3⟩
  refine ⟨⟨by simp [h.len], h.nd, fun m b d e1 e2 => ?_, fun b hb => ?_, h.hidG⟩, ⟨fun _ _ z => z, sm []⟩⟩
  · by_cases hm : n = m
    · subst hm
      rw [List.getElem?_set_self hn] at e2
      cases e2
      rw [e] at e1
      cases e1
      exact ⟨o, upd_same, r.mono (sm hid)⟩
    · rw [List.getElem?_set_ne hm] at e2
      obtain ⟨u, hu, r'⟩ := h.cell m b d e1 e2
      have ne : b ≠ a := fun z => hm (nd_ix h.nd e (z ▸ e1))
      exact ⟨u, by rw [upd_ne ne]; exact hu, r'.mono (sm hid)⟩
  · by_cases hb' : b = a
    · rw [hb', upd_same]
      simp
    · rw [upd_ne hb']
      exact h.hidT b hb
/-- a cell is frozen -/
theorem Hold.freeze (h : Hold K T γ hid S H) {n : Nat} {b : Bool} {c : CC} (q : S[n]? = some ⟨b, c⟩) : Hold K T γ hid (S.set n ⟨false, c⟩) H ∧ Ext γ S H γ (S.set n ⟨false, c⟩) H := by
  have hn : n < S.length := (List.getElem?_eq_some_iff.mp q).1
  have lv : ∀ b, liveAt γ S b = false → liveAt γ (S.set n ⟨false, c⟩) b = false := fun b hb => by
    cases z : liveAt γ (S.set n ⟨false, c⟩) b with
    | false => rfl
    | true =>
      obtain ⟨m, d, h1, h2, h3⟩ := liveAt_iff.mp z
      by_cases hm : n = m
      · subst hm
        rw [List.getElem?_set_self hn] at h2
        cases h2
        cases h3
      · rw [List.getElem?_set_ne hm] at h2
        rw [liveAt_iff.mpr ⟨m, d, h1, h2, h3⟩] at hb
        cases hb
  have sm : ∀ hd, Same (out γ S hd H) (out γ (S.set n ⟨false, c⟩) hd H) := fun hd b u hb => by
    obtain ⟨a1, a2, a3⟩ := out_some.mp hb
    exact out_some.mpr ⟨a1, lv b a2, a3⟩
  refine ⟨⟨by simp [h.len], h.nd, fun m x d e1 e2 => ?_, h.hidT, h.hidG⟩, ⟨fun _ _ z => z, sm []⟩⟩
  by_cases hm : n = m
  · subst hm
    rw [List.getElem?_set_self hn] at e2
    cases e2
    obtain ⟨u, hu, r'⟩ := h.cell n x _ e1 q
    exact ⟨u, hu, r'.mono (sm hid)⟩
  · rw [List.getElem?_set_ne hm] at e2
    obtain ⟨u, hu, r'⟩ := h.cell m x d e1 e2
    exact ⟨u, hu, r'.mono (sm hid)⟩
theorem getElem?_take_some {α : Type} {l : List α} {k n : Nat} {x : α} (h : (l.take k)[n]? = some x) : l[n]? = some x ∧ n < k := by
  rw [List.getElem?_take] at h
  split at h
  · exact ⟨h, by assumption⟩
  · cases h
/-- the last cells are forgotten: they are no cells any more -/
theorem Hold.cut (h : Hold K T γ hid S H) (k : Nat) : Hold K T (γ.take k) hid (S.take k) H ∧ ∀ hd, Same (out γ S hd H) (out (γ.take k) (S.take k) hd H) := by
  have lv : ∀ b, liveAt γ S b = false → liveAt (γ.take k) (S.take k) b = false := fun b hb => by
    cases z : liveAt (γ.take k) (S.take k) b with
    | false => rfl
    | true =>
      obtain ⟨m, d, h1, h2, h3⟩ := liveAt_iff.mp z
      rw [liveAt_iff.mpr ⟨m, d, (getElem?_take_some h1).1, (getElem?_take_some h2).1, h3⟩] at hb
      cases hb
  have sm : ∀ hd, Same (out γ S hd H) (out (γ.take k) (S.take k) hd H) := fun hd b u hb => by
    obtain ⟨a1, a2, a3⟩ := out_some.mp hb
    exact out_some.mpr ⟨a1, lv b a2, a3⟩
  refine ⟨⟨by simp [h.len], h.nd.sublist (List.take_sublist _ _), fun m x d e1 e2 => ?_, h.hidT, fun a ha hm => h.hidG a ha (List.mem_of_mem_take hm)⟩, sm⟩
  obtain ⟨u, hu, r'⟩ := h.cell m x d (getElem?_take_some e1).1 (getElem?_take_some e2).1
  exact ⟨u, hu, r'.mono (sm hid)⟩
/-- a hidden thing -/
theorem Hold.hide (h : Hold K T γ hid S H) {p : Addr} (np : H p = none) (o : HO) : Hold K T γ (p :: hid) S (upd H p o) ∧ Same (out γ S hid H) (out γ S (p :: hid) (upd H p o)) := by
  obtain ⟨h1, h2⟩ := h.fresh np
  have sm : Same (out γ S hid H) (out γ S (p :: hid) (upd H p o)) := fun b u hb => by
    obtain ⟨a1, a2, a3⟩ := out_some.mp hb
    have ne := ne_of_none a3 np
    exact out_some.mpr ⟨by simp [ne, a1], a2, by rw [upd_ne ne]; exact a3⟩
  refine ⟨⟨h.len, h.nd, fun n a c e1 e2 => ?_, fun a ha => ?_, fun a ha => ?_⟩, sm⟩
  · obtain ⟨u, hu, r⟩ := h.cell n a c e1 e2
    exact ⟨u, by rw [upd_ne (ne_of_none hu np)]; exact hu, r.mono sm⟩
  · by_cases e : a = p
    · rw [e, upd_same]
      simp
    · rw [upd_ne e]
      rcases List.mem_cons.mp ha with z | z
      · exact absurd z e
      · exact h.hidT a z
  · rcases List.mem_cons.mp ha with z | z
    · rw [z]; exact h1
    · exact h.hidG a z
/-- a hidden thing is changed -/
theorem Hold.rewrite (h : Hold K T γ hid S H) {p : Addr} (hp : p ∈ hid) (o : HO) : Hold K T γ hid S (upd H p o) ∧ ∀ b, out γ S hid (upd H p o) b = out γ S hid H b := by
  have sm : ∀ b, out γ S hid (upd H p o) b = out γ S hid H b := fun b => by
    unfold out
    by_cases e : b = p
    · rw [if_pos (by simp [e, hp]), if_pos (by simp [e, hp])]
    · rw [upd_ne e]
  refine ⟨⟨h.len, h.nd, fun n a c e1 e2 => ?_, fun a ha => ?_, h.hidG⟩, sm⟩
  · obtain ⟨u, hu, r⟩ := h.cell n a c e1 e2
    have ne : a ≠ p := fun z => h.hidG p hp (z ▸ List.mem_of_getElem? e1)
    exact ⟨u, by rw [upd_ne ne]; exact hu, r.mono fun b u hb => by rw [sm b]; exact hb⟩
  · by_cases e : a = p
    · rw [e, upd_same]
      simp
    · rw [upd_ne e]
      exact h.hidT a ha
end
end DL
end
section
set_option maxHeartbeats 2000000
namespace DL
open PySem PySem.Spec L2
open PyProof.Rows hiding St

abbrev En := List (Option D)
structure EnvR (K : PySem.W.Frag) (T : Tab) (γ : List Addr) (F : Hp) (ρ : En) (σ : St) : Prop where
  len : ρ.length = σ.length
  get : ∀ (i : Nat) (d : D), ρ[i]? = some (some d) → ∃ v, σ[i]? = some (some v) ∧ Rp K T γ F d v
theorem EnvR.mono {K : PySem.W.Frag} {T : Tab} {γ γ' : List Addr} {F F' : Hp} {ρ : En} {σ : St} (hg : ∀ (n : Nat) (a : Addr), γ[n]? = some a → γ'[n]? = some a) (hs : Same F F') (e : EnvR K T γ F ρ σ) : EnvR K T γ' F' ρ σ :=
  ⟨e.len, fun i d h => let ⟨v, h1, h2⟩ := e.get i d h; ⟨v, h1, Rp.mono hg hs d v h2⟩⟩
theorem EnvR.set {K : PySem.W.Frag} {T : Tab} {γ : List Addr} {F : Hp} {ρ : En} {σ : St} (e : EnvR K T γ F ρ σ) (i : Nat) {d : D} {v : V} (r : Rp K T γ F d v) : EnvR K T γ F (ρ.set i (some d)) (σ.set i (some v)) := by
  refine ⟨by simp [e.len], fun j d' h => ?_⟩
  by_cases hj : i = j
  · subst hj
    have hi : i < ρ.length := by
      have := (List.getElem?_eq_some_iff.mp h).1
      simpa using this
    rw [List.getElem?_set_self hi] at h
    cases h
    exact ⟨v, List.getElem?_set_self (by rw [← e.len]; exact hi), r⟩
  · rw [List.getElem?_set_ne hj] at h
    obtain ⟨v', h1, h2⟩ := e.get j d' h
    exact ⟨v', by rw [List.getElem?_set_ne hj]; exact h1, h2⟩
/-- the wish about exceptions -/
abbrev XX := Xc → En → List Addr → List Addr → Cells → Hp → St → Prop
def XX0 : XX := fun _ _ _ _ _ _ _ => False

section
variable (K : PySem.W.Frag) (T : Tab) (EE : XX)
/-- what is wanted of a result -/
def resG {α β : Type} (rep : List Addr → Hp → α → β → Prop) (γ hid : List Addr) (S : Cells) (H : Hp) (ρ : En) (σ : St) (r : R α) (Q : β → Hp → Prop) : Prop := match r with
  | .ok a S' => ∀ (γ' : List Addr) (H' : Hp) (b : β), Hold K T γ' hid S' H' → Ext γ S H γ' S' H' → rep γ' (out γ' S' hid H') a b → Q b H'
  | .err x S' => ∀ (γ' : List Addr) (H' : Hp), Hold K T γ' hid S' H' → Ext γ S H γ' S' H' → EE x ρ γ' hid S' H' σ
  | .stuck => False
def dG {α β : Type} (rep : List Addr → Hp → α → β → Prop) (f : En → M α) : St → Hp → (β → Hp → Prop) → Prop := fun σ H Q =>
  ∃ γ hid S ρ, Hold K T γ hid S H ∧ EnvR K T γ (out γ S hid H) ρ σ ∧ resG K T EE rep γ hid S H ρ σ (f ρ S) Q
abbrev repE : List Addr → Hp → D → V → Prop := Rp K T
abbrev repA : List Addr → Hp → List D → List V → Prop := RpL K T
/-- a list's items -/
def repL : List Addr → Hp → List D → List V → Prop := fun γ F l vs => l.length ≤ sizeLine ∧ RpL K T γ F l vs
def repB : List Addr → Hp → Bool → Bool → Prop := fun _ _ a b => a = b
def dE (f : En → M D) : TE := dG K T EE (repE K T) f
def dT (f : En → M Bool) : TT := dG K T EE repB f
def dA (f : En → M (List D)) : TA := dG K T EE (repA K T) f
/-- a new list with these items -/
def dL (f : En → M (List D)) : TE := fun σ H Q => dG K T EE (repL K T) f σ H fun vs H' => ∀ p, H' p = none → Q (.ref p) (upd H' p (.lst vs))
end
section
variable {K : PySem.W.Frag} {T : Tab} {EE : XX}
theorem resG.base {α β : Type} {rep : List Addr → Hp → α → β → Prop} {γ γ1 hid : List Addr} {S S1 : Cells} {H H1 : Hp} {ρ : En} {σ : St} {r : R α} {Q : β → Hp → Prop} (h : resG K T EE rep γ hid S H ρ σ r Q) (e : Ext γ S H γ1 S1 H1) :
    resG K T EE rep γ1 hid S1 H1 ρ σ r Q := by
  cases r with
  | ok a S' => exact fun γ' H' b a1 a2 a3 => h γ' H' b a1 (e.trans a2) a3
  | err x S' => exact fun γ' H' a1 a2 => h γ' H' a1 (e.trans a2)
  | stuck => exact h
theorem resG.imp {α β : Type} {rep : List Addr → Hp → α → β → Prop} {γ hid : List Addr} {S : Cells} {H : Hp} {ρ : En} {σ : St} {r : R α} {Q Q' : β → Hp → Prop} (h : resG K T EE rep γ hid S H ρ σ r Q) (i : ∀ b H', Q b H' → Q' b H') :
    resG K T EE rep γ hid S H ρ σ r Q' := by
  cases r with
  | ok a S' => exact fun γ' H' b a1 a2 a3 => i _ _ (h γ' H' b a1 a2 a3)
  | err x S' => exact h
  | stuck => exact h
/-- one thing, then another -/
theorem bindR {α β α' β' : Type} {rep : List Addr → Hp → α → β → Prop} {rep' : List Addr → Hp → α' → β' → Prop} {γ hid : List Addr} {S : Cells} {H : Hp} {ρ : En} {σ : St} {Q : β' → Hp → Prop} {f : En → M α} {g : α → M α'}
    (hold : Hold K T γ hid S H) (env : EnvR K T γ (out γ S hid H) ρ σ) (h : resG K T EE rep' γ hid S H ρ σ ((M.bind (f ρ) g) S) Q) :
    dG K T EE rep f σ H fun b H1 => ∃ a γ1 S1, Hold K T γ1 hid S1 H1 ∧ Ext γ S H γ1 S1 H1 ∧ EnvR K T γ1 (out γ1 S1 hid H1) ρ σ ∧ rep γ1 (out γ1 S1 hid H1) a b ∧ resG K T EE rep' γ1 hid S1 H1 ρ σ (g a S1) Q := by
  refine ⟨γ, hid, S, ρ, hold, env, ?_⟩
  have h' : resG K T EE rep' γ hid S H ρ σ (match f ρ S with
    | .ok a S' => g a S'
    | .err x S' => .err x S'
    | .stuck => .stuck) Q := h
  cases q : f ρ S with
  | ok a S1 =>
    rw [q] at h'
    exact fun γ1 H1 b a1 a2 a3 => ⟨a, γ1, S1, a1, a2, env.mono a2.pre (a2.sameH hid), a3, h'.base a2⟩
  | err x S1 =>
    rw [q] at h'
    exact h'
  | stuck =>
    rw [q] at h'
    exact h'
theorem bindD {α β α' β' : Type} {rep : List Addr → Hp → α → β → Prop} {rep' : List Addr → Hp → α' → β' → Prop} {H : Hp} {σ : St} {Q : β' → Hp → Prop} {f : En → M α} {g : En → α → M α'}
    (h : dG K T EE rep' (fun ρ => M.bind (f ρ) (g ρ)) σ H Q) :
    dG K T EE rep f σ H fun b H1 => ∃ a γ1 hid S1 ρ, Hold K T γ1 hid S1 H1 ∧ EnvR K T γ1 (out γ1 S1 hid H1) ρ σ ∧ rep γ1 (out γ1 S1 hid H1) a b ∧ resG K T EE rep' γ1 hid S1 H1 ρ σ (g ρ a S1) Q := by
  obtain ⟨γ, hid, S, ρ, hold, env, h⟩ := h
  obtain ⟨γ', hid', S', ρ', h1, h2, h3⟩ := bindR (rep := rep) hold env h
  exact ⟨γ', hid', S', ρ', h1, h2, h3.imp fun b H1 ⟨a, γ1, S1, q1, q2, q3, q4, q5⟩ => ⟨a, γ1, hid, S1, ρ, q1, q3, q4, q5⟩⟩
end

/-- e's value is f -/
structure EvE (X : Cx) (T : Tab) (EE : XX) (e : Expr) (f : En → M D) : Prop where
  pe : PE X e (dE X.K T EE f)
structure EvL (X : Cx) (T : Tab) (EE : XX) (e : Expr) (f : En → M (List D)) : Prop where
  pe : PE X e (dL X.K T EE f)
structure EvT (X : Cx) (T : Tab) (EE : XX) (e : Expr) (f : En → M Bool) : Prop where
  pt : PT X e (dT X.K T EE f)
structure EvW (X : Cx) (T : Tab) (EE : XX) (e : Expr) (f : En → M Bool) : Prop where
  pw : PW X e (dT X.K T EE f)
structure EvA (X : Cx) (T : Tab) (EE : XX) (es : List Expr) (f : En → M (List D)) : Prop where
  pa : PA X es (dA X.K T EE f)
theorem _root_.L2.PE.dimp {X : Cx} {e : Expr} {t t' : TE} (h : PE X e t) (i : ∀ σ H Q, t' σ H Q → t σ H Q) : PE X e t' := ⟨fun pins s σ H Q I q => h.run pins s σ H Q I (i _ _ _ q)⟩
theorem _root_.L2.PT.dimp {X : Cx} {e : Expr} {t t' : TT} (h : PT X e t) (i : ∀ σ H Q, t' σ H Q → t σ H Q) : PT X e t' := ⟨fun pins s σ H Q I q => h.run pins s σ H Q I (i _ _ _ q)⟩
theorem _root_.L2.PW.dimp {X : Cx} {e : Expr} {t t' : TT} (h : PW X e t) (i : ∀ σ H Q, t' σ H Q → t σ H Q) : PW X e t' := ⟨fun w pins s σ H Q I q => h.run w pins s σ H Q I (i _ _ _ q)⟩
theorem _root_.L2.PA.dimp {X : Cx} {e : List Expr} {t t' : TA} (h : PA X e t) (i : ∀ σ H Q, t' σ H Q → t σ H Q) : PA X e t' := ⟨fun p pins s σ H Q I q => h.run p pins s σ H Q I (i _ _ _ q)⟩
theorem _root_.L2.OpR.dimp {X : Cx} {f : Value → Value → Sem Value} {r r' : R2} (h : OpR X f r) (i : ∀ x y H Q, r' x y H Q → r x y H Q) : OpR X f r' := fun pins s σ H x y v u Q I rx ry q => h pins s σ H x y v u Q I rx ry (i _ _ _ _ q)
theorem _root_.L2.CallR.dimp {X : Cx} {f : Value} {r r' : List V → Hp → VK → Prop} (h : CallR X f r) (i : ∀ x H Q, r' x H Q → r x H Q) : CallR X f r' := fun pins s σ H xs us Q I rx q => h pins s σ H xs us Q I rx (i _ _ _ q)

/-- without a change of the store -/
def M.opt {α : Type} (f : Cells → Option α) : M α := fun S => match f S with
  | some a => .ok a S
  | none => .stuck
/-- with one -/
def M.chg {α : Type} (f : Cells → Option (α × Cells)) : M α := fun S => match f S with
  | some (a, S') => .ok a S'
  | none => .stuck
/-- a value is wanted -/
def okV (K : PySem.W.Frag) (T : Tab) (γ hid : List Addr) (S : Cells) (H : Hp) (d : D) (S' : Cells) (Q : VK) : Prop :=
  ∀ (γ' : List Addr) (H' : Hp) (v : V), Hold K T γ' hid S' H' → Ext γ S H γ' S' H' → Rp K T γ' (out γ' S' hid H') d v → Q v H'
def okL (K : PySem.W.Frag) (T : Tab) (γ hid : List Addr) (S : Cells) (H : Hp) (l : List D) (S' : Cells) (Q : VK) : Prop :=
  ∀ (γ' : List Addr) (H' : Hp) (vs : List V), Hold K T γ' hid S' H' → Ext γ S H γ' S' H' → l.length ≤ sizeLine → RpL K T γ' (out γ' S' hid H') l vs → ∀ p, H' p = none → Q (.ref p) (upd H' p (.lst vs))
section
variable {X : Cx} {T : Tab} {EE : XX} {a b e : Expr} {es : List Expr} {fa fb f : En → M D} {fs : En → M (List D)} {pos : Pos}

theorem bind_of_ok {α β : Type} {f : M α} {g : α → M β} {S S' : Cells} {a : α} (e : f S = .ok a S') : (M.bind (f) g) S = g a S' := by
  unfold M.bind
  rw [e]
theorem bind_of_stuck {α β : Type} {f : M α} {g : α → M β} {S : Cells} (e : f S = .stuck) : (M.bind (f) g) S = .stuck := by
  unfold M.bind
  rw [e]
theorem bind_of_err {α β : Type} {f : M α} {g : α → M β} {S S' : Cells} {x : Xc} (e : f S = .err x S') : (M.bind (f) g) S = .err x S' := by
  unfold M.bind
  rw [e]
theorem opt_some {α : Type} {f : Cells → Option α} {S : Cells} {a : α} (e : f S = some a) : M.opt f S = .ok a S := by
  unfold M.opt
  rw [e]
theorem opt_none {α : Type} {f : Cells → Option α} {S : Cells} (e : f S = none) : M.opt f S = .stuck := by
  unfold M.opt
  rw [e]
def rd (ρ : En) (i : Nat) : M D := fun S => match ρ[i]? with
  | some (some d) => .ok d S
  | _ => .stuck
theorem ev_var (i : Nat) {x : Str} (hN : X.N[i]? = some x) (hv : Vis X.env.scope x) (hd : (x == ("__debug__" : Str)) = false := by decide) (hcd : (x == ("__classdict__" : Str)) = false := by decide) : EvE X T EE (.Name x pos) (fun ρ => rd ρ i) := by
  refine ⟨(pe_var hN hv hd hcd).dimp fun σ H Q h => ?_⟩
  obtain ⟨γ, hid, S, ρ, hold, env, h⟩ := h
  have h : resG X.K T EE (repE X.K T) γ hid S H ρ σ (rd ρ i S) Q := h
  unfold rd at h
  split at h
  · rename_i d hd
    obtain ⟨v, h1, h2⟩ := env.get i d hd
    exact ⟨v, h1, h γ H v hold (Ext.refl _ _ _) h2⟩
  · exact h.elim
def kon (d : D) : M D := fun S => .ok d S
theorem konR {K : PySem.W.Frag} {d : D} {v : V} {σ : St} {H : Hp} {Q : VK} (h : dE K T EE (fun _ => kon d) σ H Q) (r : ∀ γ F, Rp K T γ F d v) : Q v H := by
  obtain ⟨γ, hid, S, ρ, hold, env, h⟩ := h
  exact h γ H v hold (Ext.refl _ _ _) (r _ _)
theorem ev_int {i : Int} {j : Nat} : EvE X T EE (.Constant (.int i) j pos) (fun _ => kon (.int i)) := ⟨pe_int.dimp fun σ H Q h => konR h fun _ _ => .int _⟩
theorem ev_bl {i : Bool} {j : Nat} : EvE X T EE (.Constant (.bool i) j pos) (fun _ => kon (.bl i)) := ⟨pe_bl.dimp fun σ H Q h => konR h fun _ _ => .bl _⟩
theorem ev_non {j : Nat} : EvE X T EE (.Constant .none j pos) (fun _ => kon .non) := ⟨pe_non.dimp fun σ H Q h => konR h fun _ _ => .non⟩
theorem ev_str {i : Str} {j : Nat} (z : i.length ≤ sizeLine) : EvE X T EE (.Constant (.str i) j pos) (fun _ => kon (.str i)) := ⟨pe_str.dimp fun σ H Q h => konR h fun _ _ => .str _ z⟩
/-- an operator by its data function -/
def rO (K : PySem.W.Frag) (T : Tab) (op : D → D → Cells → Option D) : R2 := fun x y H Q => ∃ γ hid S d1 d2 d, Hold K T γ hid S H ∧ Rp K T γ (out γ S hid H) d1 x ∧ Rp K T γ (out γ S hid H) d2 y ∧ op d1 d2 S = some d ∧ okV K T γ hid S H d S Q
def rOL (K : PySem.W.Frag) (T : Tab) (op : D → D → Cells → Option (List D)) : R2 := fun x y H Q => ∃ γ hid S d1 d2 l, Hold K T γ hid S H ∧ Rp K T γ (out γ S hid H) d1 x ∧ Rp K T γ (out γ S hid H) d2 y ∧ op d1 d2 S = some l ∧ okL K T γ hid S H l S Q
theorem opt_ok {K : PySem.W.Frag} {α β : Type} {rep : List Addr → Hp → α → β → Prop} {γ hid : List Addr} {S : Cells} {H : Hp} {ρ : En} {σ : St} {Q : β → Hp → Prop} {f : Cells → Option α} (h : resG K T EE rep γ hid S H ρ σ (M.opt f S) Q) : ∃ a, f S = some a ∧ resG K T EE rep γ hid S H ρ σ (.ok a S) Q := by
  unfold M.opt at h
  split at h
  · rename_i a e
    exact ⟨a, e, h⟩
  · exact h.elim
theorem two {K : PySem.W.Frag} {op : D → D → Cells → Option D} {σ : St} {H : Hp} {Q : VK} (h : dE K T EE (fun ρ => M.bind (fa ρ) fun x => M.bind (fb ρ) fun y => M.opt (op x y)) σ H Q) : tOp (rO K T op) (dE K T EE fa) (dE K T EE fb) σ H Q := by
  refine (show dG K T EE (repE K T) fa σ H _ from ?_)
  obtain ⟨γ, hid, S, ρ, hold, env, h⟩ := h
  obtain ⟨_, _, _, _, h1, h2, h3⟩ := bindR (rep := repE K T) hold env h
  refine ⟨_, _, _, _, h1, h2, h3.imp fun x H1 ⟨d1, γ1, S1, q1, q2, q3, q4, q5⟩ => ?_⟩
  obtain ⟨_, _, _, _, h1, h2, h3⟩ := bindR (rep := repE K T) q1 q3 q5
  refine ⟨_, _, _, _, h1, h2, h3.imp fun y H2 ⟨d2, γ2, S2, w1, w2, w3, w4, w5⟩ => ?_⟩
  obtain ⟨d, e, w5⟩ := opt_ok w5
  exact ⟨γ2, hid, S2, d1, d2, d, w1, w2.rp q4, w4, e, w5⟩
theorem twoL {K : PySem.W.Frag} {op : D → D → Cells → Option (List D)} {σ : St} {H : Hp} {Q : VK} (h : dL K T EE (fun ρ => M.bind (fa ρ) fun x => M.bind (fb ρ) fun y => M.opt (op x y)) σ H Q) : tOp (rOL K T op) (dE K T EE fa) (dE K T EE fb) σ H Q := by
  refine (show dG K T EE (repE K T) fa σ H _ from ?_)
  obtain ⟨γ, hid, S, ρ, hold, env, h⟩ := h
  obtain ⟨_, _, _, _, h1, h2, h3⟩ := bindR (rep := repE K T) hold env h
  refine ⟨_, _, _, _, h1, h2, h3.imp fun x H1 ⟨d1, γ1, S1, q1, q2, q3, q4, q5⟩ => ?_⟩
  obtain ⟨_, _, _, _, h1, h2, h3⟩ := bindR (rep := repE K T) q1 q3 q5
  refine ⟨_, _, _, _, h1, h2, h3.imp fun y H2 ⟨d2, γ2, S2, w1, w2, w3, w4, w5⟩ => ?_⟩
  obtain ⟨d, e, w5⟩ := opt_ok w5
  exact ⟨γ2, hid, S2, d1, d2, d, w1, w2.rp q4, w4, e, fun γ' H' vs c1 c2 z c3 => w5 γ' H' vs c1 c2 ⟨z, c3⟩⟩
theorem ev_bin {o : Operator} {op : D → D → Cells → Option D} (ho : OpR X (binaryOp o) (rO X.K T op)) (ha : EvE X T EE a fa) (hb : EvE X T EE b fb) : EvE X T EE (.BinOp a o b pos) (fun ρ => M.bind (fa ρ) fun x => M.bind (fb ρ) fun y => M.opt (op x y)) :=
  ⟨(pe_op ho ha.pe hb.pe).dimp fun σ H Q h => two h⟩
theorem evL_bin {o : Operator} {op : D → D → Cells → Option (List D)} (ho : OpR X (binaryOp o) (rOL X.K T op)) (ha : EvE X T EE a fa) (hb : EvE X T EE b fb) : EvL X T EE (.BinOp a o b pos) (fun ρ => M.bind (fa ρ) fun x => M.bind (fb ρ) fun y => M.opt (op x y)) :=
  ⟨(pe_op ho ha.pe hb.pe).dimp fun σ H Q h => twoL h⟩
theorem ev_cmp {o : CmpOp} {op : D → D → Cells → Option D} (ho : OpR X (compareOp o) (rO X.K T op)) (hm : behindInMarks o b = false) (ha : EvE X T EE a fa) (hb : EvE X T EE b fb) : EvE X T EE (.Compare a [o] [b] pos) (fun ρ => M.bind (fa ρ) fun x => M.bind (fb ρ) fun y => M.opt (op x y)) :=
  ⟨(pe_cmpR ho ha.pe hb.pe hm).dimp fun σ H Q h => two h⟩
def rU (K : PySem.W.Frag) (T : Tab) (op : D → Cells → Option D) : V → Hp → VK → Prop := fun x H Q => ∃ γ hid S d1 d, Hold K T γ hid S H ∧ Rp K T γ (out γ S hid H) d1 x ∧ op d1 S = some d ∧ okV K T γ hid S H d S Q
theorem one {K : PySem.W.Frag} {op : D → Cells → Option D} {σ : St} {H : Hp} {Q : VK} (h : dE K T EE (fun ρ => M.bind (fa ρ) fun x => M.opt (op x)) σ H Q) : tUn (rU K T op) (dE K T EE fa) σ H Q := by
  refine (show dG K T EE (repE K T) fa σ H _ from ?_)
  obtain ⟨_, _, _, _, h1, h2, h3⟩ := bindD (rep := repE K T) h
  refine ⟨_, _, _, _, h1, h2, h3.imp fun x H1 ⟨d1, γ1, hid, S1, ρ, q1, q3, q4, q5⟩ => ?_⟩
  obtain ⟨d, e, w5⟩ := opt_ok q5
  exact ⟨γ1, hid, S1, d1, d, q1, q4, e, w5⟩
theorem ev_un {o : UnaryOp} {op : D → Cells → Option D} (ho : UnR X (unaryOp o) (rU X.K T op)) (ha : EvE X T EE a fa) : EvE X T EE (.UnaryOp o a pos) (fun ρ => M.bind (fa ρ) fun x => M.opt (op x)) :=
  ⟨(pe_un ho ha.pe).dimp fun σ H Q h => one h⟩

/-- a value's truth -/
def truD : D → Cells → Option Bool
  | .non, _ => some false
  | .bl b, _ => some b
  | .int i, _ => some (i != 0)
  | .str y, _ => some ((y.length : Int) != 0)
  | .tup l, _ => some (!l.isEmpty)
  | .lst l, _ => some (!l.isEmpty)
  | .ref n, S => match S[n]? with
    | some ⟨_, .lst l⟩ => some (!l.isEmpty)
    | _ => none
  | .obj _ _, _ => none
  | .ext _ _, _ => none
theorem isEmpty_rep {K : PySem.W.Frag} {γ : List Addr} {F : Hp} {ds : List D} {vs : List V} (h : RpL K T γ F ds vs) : (!ds.isEmpty) = !vs.isEmpty := by
  cases h <;> rfl
/-- a cell that is a list -/
theorem Hold.list {K : PySem.W.Frag} {γ hid : List Addr} {S : Cells} {H : Hp} (h : Hold K T γ hid S H) {n : Nat} {a : Addr} {b : Bool} {l : List D} (e : γ[n]? = some a) (q : S[n]? = some ⟨b, .lst l⟩) : ∃ vs, H a = some (.lst vs) ∧ l.length ≤ sizeLine ∧ RpL K T [] (out γ S hid H) l vs := by
  obtain ⟨o, h1, h2⟩ := h.cell n a _ e q
  cases h2 with
  | lst z r => exact ⟨_, h1, z, r⟩
theorem truD_ok {K : PySem.W.Frag} {γ hid : List Addr} {S : Cells} {H : Hp} {d : D} {v : V} {k : Bool} (h : Hold K T γ hid S H) (r : Rp K T γ (out γ S hid H) d v) (e : truD d S = some k) : TruV K v H k := by
  cases r with
  | non => cases e; rfl
  | bl b => cases e; rfl
  | int i => cases e; rfl
  | str x z =>
    cases e
    exact ⟨z, rfl⟩
  | lst a z b =>
    cases e
    exact .inl ⟨_, (out_sub _ _ _ _).seq a, isEmpty_rep b⟩
  | tup a z b =>
    cases e
    exact .inr (.inl ⟨_, same_seqT (out_sub _ _ _ _) a, isEmpty_rep b⟩)
  | ref a =>
    rename_i n _
    have e : (match S[n]? with
      | some ⟨_, .lst l⟩ => some (!l.isEmpty)
      | _ => none) = some k := e
    split at e
    · rename_i q
      cases e
      obtain ⟨vs, h1, _, h2⟩ := h.list a q
      exact .inl ⟨_, SqL.of h1, isEmpty_rep h2⟩
    · cases e
  | obj a b c => cases e
  | exc a => cases e
  | dc0 a => cases e
theorem ev_truth (ha : EvE X T EE a fa) (he : ∀ whole, isTrue a X.env whole = (do let v ← whole; standAt a.pos; holding [v] (truthy v))) : EvT X T EE a (fun ρ => M.bind (fa ρ) fun x => M.opt (truD x)) := by
  refine ⟨(pt_truth ha.pe he).dimp fun σ H Q h => ?_⟩
  refine (show dG X.K T EE (repE X.K T) fa σ H _ from ?_)
  obtain ⟨_, _, _, _, h1, h2, h3⟩ := bindD (rep := repE X.K T) h
  refine ⟨_, _, _, _, h1, h2, h3.imp fun x H1 ⟨d1, γ1, hid, S1, ρ, q1, q3, q4, q5⟩ => ?_⟩
  obtain ⟨d, e, w5⟩ := opt_ok q5
  exact ⟨d, truD_ok q1 q4 e, w5 γ1 H1 d q1 (Ext.refl _ _ _) rfl⟩
def asB : D → Option Bool
  | .bl b => some b
  | _ => none
theorem asB_ok {K : PySem.W.Frag} {γ : List Addr} {F : Hp} {d : D} {v : V} {k : Bool} (r : Rp K T γ F d v) (e : asB d = some k) : d = .bl k ∧ v = .bl k := by
  cases r <;> cases e
  exact ⟨rfl, rfl⟩
/-- a comparison as a test -/
theorem ev_cmpT {o : CmpOp} {op : D → D → Cells → Option D} (ho : OpR X (compareOp o) (rO X.K T op)) (hm : behindInMarks o b = false) (ha : EvE X T EE a fa) (hb : EvE X T EE b fb) :
    EvT X T EE (.Compare a [o] [b] pos) (fun ρ => M.bind (fa ρ) fun x => M.bind (fb ρ) fun y => M.opt (fun S => (op x y S).bind asB)) := by
  refine ⟨(pt_cmpR ho ha.pe hb.pe hm).dimp fun σ H Q h => ?_⟩
  refine (show dG X.K T EE (repE X.K T) fa σ H _ from ?_)
  obtain ⟨γ, hid, S, ρ, hold, env, h⟩ := h
  obtain ⟨_, _, _, _, h1, h2, h3⟩ := bindR (rep := repE X.K T) hold env h
  refine ⟨_, _, _, _, h1, h2, h3.imp fun x H1 ⟨d1, γ1, S1, q1, q2, q3, q4, q5⟩ => ?_⟩
  obtain ⟨_, _, _, _, h1, h2, h3⟩ := bindR (rep := repE X.K T) q1 q3 q5
  refine ⟨_, _, _, _, h1, h2, h3.imp fun y H2 ⟨d2, γ2, S2, w1, w2, w3, w4, w5⟩ => ?_⟩
  obtain ⟨k, e, w5⟩ := opt_ok w5
  cases q : op d1 d2 S2 with
  | none =>
    rw [q] at e
    cases e
  | some d =>
    rw [q] at e
    have e' : asB d = some k := e
    refine ⟨γ2, hid, S2, d1, d2, d, w1, w2.rp q4, w4, q, fun γ' H' v c1 c2 c3 => ?_⟩
    cases c3 with
    | bl b =>
      cases e'
      exact ⟨_, rfl, w5 γ' H' _ c1 c2 rfl⟩
    | _ => cases e'
/-- a value that is True or False, as a test -/
theorem ev_val (ha : EvE X T EE a fa) (he : ∀ whole, isTrue a X.env whole = (do let v ← whole; standAt a.pos; holding [v] (truthy v)) := by intro _; rfl) : EvT X T EE a (fun ρ => M.bind (fa ρ) fun x => M.opt (truD x)) := ev_truth ha he

variable {ta tb : En → M Bool} {rest : List Expr}
theorem evw_and1 (ha : EvT X T EE a ta) : EvW X T EE (.BoolOp .And [a] pos) ta := ⟨pw_and1 ha.pt⟩
theorem evw_or1 (ha : EvT X T EE a ta) : EvW X T EE (.BoolOp .Or [a] pos) ta := ⟨pw_or1 ha.pt⟩
def andM (x : M Bool) (y : M Bool) : M Bool := M.bind (x) fun c => if c = true then y else fun S => .ok false S
def orM (x : M Bool) (y : M Bool) : M Bool := M.bind (x) fun c => if c = true then fun S => .ok true S else y
theorem evw_and (ha : EvT X T EE a ta) (hb : EvW X T EE (.BoolOp .And (b :: rest) pos) tb) : EvW X T EE (.BoolOp .And (a :: b :: rest) pos) (fun ρ => andM (ta ρ) (tb ρ)) := by
  refine ⟨(pw_and ha.pt hb.pw).dimp fun σ H Q h => ?_⟩
  refine (show dG X.K T EE repB ta σ H _ from ?_)
  obtain ⟨_, _, _, _, h1, h2, h3⟩ := bindD (rep := repB) h
  refine ⟨_, _, _, _, h1, h2, h3.imp fun c H1 ⟨k, γ1, hid, S1, ρ, q1, q3, q4, q5⟩ => ?_⟩
  have q4' : k = c := q4
  subst q4'
  cases k with
  | true =>
    rw [if_pos rfl] at q5
    rw [if_pos rfl]
    exact ⟨γ1, hid, S1, ρ, q1, q3, q5⟩
  | false => exact q5 γ1 H1 false q1 (Ext.refl _ _ _) rfl
theorem evw_or (ha : EvT X T EE a ta) (hb : EvW X T EE (.BoolOp .Or (b :: rest) pos) tb) : EvW X T EE (.BoolOp .Or (a :: b :: rest) pos) (fun ρ => orM (ta ρ) (tb ρ)) := by
  refine ⟨(pw_or ha.pt hb.pw).dimp fun σ H Q h => ?_⟩
  refine (show dG X.K T EE repB ta σ H _ from ?_)
  obtain ⟨_, _, _, _, h1, h2, h3⟩ := bindD (rep := repB) h
  refine ⟨_, _, _, _, h1, h2, h3.imp fun c H1 ⟨k, γ1, hid, S1, ρ, q1, q3, q4, q5⟩ => ?_⟩
  have q4' : k = c := q4
  subst q4'
  cases k with
  | false =>
    rw [if_neg Bool.false_ne_true] at q5
    rw [if_neg Bool.false_ne_true]
    exact ⟨γ1, hid, S1, ρ, q1, q3, q5⟩
  | true => exact q5 γ1 H1 true q1 (Ext.refl _ _ _) rfl
theorem evt_of (h : EvW X T EE a ta) : EvT X T EE a ta := ⟨h.pw.pt⟩
theorem evt_not (ha : EvT X T EE a ta) : EvT X T EE (.UnaryOp .Not a pos) (fun ρ => M.bind (ta ρ) fun c S => .ok (!c) S) := by
  refine ⟨(pt_not ha.pt).dimp fun σ H Q h => ?_⟩
  refine (show dG X.K T EE repB ta σ H _ from ?_)
  obtain ⟨_, _, _, _, h1, h2, h3⟩ := bindD (rep := repB) h
  refine ⟨_, _, _, _, h1, h2, h3.imp fun c H1 ⟨k, γ1, hid, S1, ρ, q1, q3, q4, q5⟩ => ?_⟩
  have q4' : k = c := q4
  subst q4'
  exact q5 γ1 H1 _ q1 (Ext.refl _ _ _) rfl
/-- .. as values -/
theorem ev_one {op : BoolOp} (h : EvE X T EE a fa) : EvE X T EE (.BoolOp op [a] pos) fa := ⟨pe_one h.pe⟩
def andE (x : M D) (y : M D) : M D := M.bind (x) fun d => M.bind (M.opt (fun _ => asB d)) fun c => if c = true then y else kon (.bl false)
def orE (x : M D) (y : M D) : M D := M.bind (x) fun d => M.bind (M.opt (fun _ => asB d)) fun c => if c = true then kon (.bl true) else y
theorem optB {K : PySem.W.Frag} {α β : Type} {rep : List Addr → Hp → α → β → Prop} {γ hid : List Addr} {S : Cells} {H : Hp} {ρ : En} {σ : St} {Q : β → Hp → Prop} {d : D} {g : Bool → M α} (h : resG K T EE rep γ hid S H ρ σ ((M.bind (M.opt (fun _ => asB d)) g) S) Q) : ∃ k, asB d = some k ∧ resG K T EE rep γ hid S H ρ σ (g k S) Q := by
  cases q : asB d with
  | none =>
    unfold M.opt M.bind at h
    simp only [q] at h
    exact h.elim
  | some k =>
    unfold M.opt M.bind at h
    simp only [q] at h
    exact ⟨k, rfl, h⟩
theorem ev_and (ha : EvE X T EE a fa) (hb : EvE X T EE (.BoolOp .And (b :: rest) pos) fb) : EvE X T EE (.BoolOp .And (a :: b :: rest) pos) (fun ρ => andE (fa ρ) (fb ρ)) := by
  refine ⟨(pe_and ha.pe hb.pe).dimp fun σ H Q h => ?_⟩
  refine (show dG X.K T EE (repE X.K T) fa σ H _ from ?_)
  obtain ⟨_, _, _, _, h1, h2, h3⟩ := bindD (rep := repE X.K T) h
  refine ⟨_, _, _, _, h1, h2, h3.imp fun c H1 ⟨d, γ1, hid, S1, ρ, q1, q3, q4, q5⟩ => ?_⟩
  obtain ⟨k, e, q6⟩ := optB q5
  clear q5
  obtain ⟨rfl, rfl⟩ := asB_ok q4 e
  refine ⟨k, rfl, ?_⟩
  cases k with
  | true =>
    rw [if_pos rfl] at q6
    rw [if_pos rfl]
    exact ⟨γ1, hid, S1, ρ, q1, q3, q6⟩
  | false => exact q6 γ1 H1 _ q1 (Ext.refl _ _ _) (.bl _)
theorem ev_or (ha : EvE X T EE a fa) (hb : EvE X T EE (.BoolOp .Or (b :: rest) pos) fb) : EvE X T EE (.BoolOp .Or (a :: b :: rest) pos) (fun ρ => orE (fa ρ) (fb ρ)) := by
  refine ⟨(pe_or ha.pe hb.pe).dimp fun σ H Q h => ?_⟩
  refine (show dG X.K T EE (repE X.K T) fa σ H _ from ?_)
  obtain ⟨_, _, _, _, h1, h2, h3⟩ := bindD (rep := repE X.K T) h
  refine ⟨_, _, _, _, h1, h2, h3.imp fun c H1 ⟨d, γ1, hid, S1, ρ, q1, q3, q4, q5⟩ => ?_⟩
  obtain ⟨k, e, q6⟩ := optB q5
  clear q5
  obtain ⟨rfl, rfl⟩ := asB_ok q4 e
  refine ⟨k, rfl, ?_⟩
  cases k with
  | false =>
    rw [if_neg Bool.false_ne_true] at q6
    rw [if_neg Bool.false_ne_true]
    exact ⟨γ1, hid, S1, ρ, q1, q3, q6⟩
  | true => exact q6 γ1 H1 _ q1 (Ext.refl _ _ _) (.bl _)
theorem ev_not (ha : EvE X T EE a fa) : EvE X T EE (.UnaryOp .Not a pos) (fun ρ => M.bind (fa ρ) fun d => M.bind (M.opt (fun _ => asB d)) fun c => kon (.bl (!c))) := by
  refine ⟨(pe_not ha.pe).dimp fun σ H Q h => ?_⟩
  refine (show dG X.K T EE (repE X.K T) fa σ H _ from ?_)
  obtain ⟨_, _, _, _, h1, h2, h3⟩ := bindD (rep := repE X.K T) h
  refine ⟨_, _, _, _, h1, h2, h3.imp fun c H1 ⟨d, γ1, hid, S1, ρ, q1, q3, q4, q5⟩ => ?_⟩
  obtain ⟨k, e, q6⟩ := optB q5
  clear q5
  obtain ⟨rfl, rfl⟩ := asB_ok q4 e
  exact ⟨k, rfl, q6 γ1 H1 _ q1 (Ext.refl _ _ _) (.bl _)⟩
theorem ev_ifExp {c : Expr} (hc : EvT X T EE c ta) (ha : EvE X T EE a fa) (hb : EvE X T EE b fb) : EvE X T EE (.IfExp c a b pos) (fun ρ => M.bind (ta ρ) fun k => if k = true then fa ρ else fb ρ) := by
  refine ⟨(pe_ifExp hc.pt ha.pe hb.pe).dimp fun σ H Q h => ?_⟩
  refine (show dG X.K T EE repB ta σ H _ from ?_)
  obtain ⟨_, _, _, _, h1, h2, h3⟩ := bindD (rep := repB) h
  refine ⟨_, _, _, _, h1, h2, h3.imp fun c H1 ⟨k, γ1, hid, S1, ρ, q1, q3, q4, q5⟩ => ?_⟩
  have q4' : k = c := q4
  subst q4'
  cases k with
  | true =>
    rw [if_pos rfl] at q5
    rw [if_pos rfl]
    exact ⟨γ1, hid, S1, ρ, q1, q3, q5⟩
  | false =>
    rw [if_neg Bool.false_ne_true] at q5
    rw [if_neg Bool.false_ne_true]
    exact ⟨γ1, hid, S1, ρ, q1, q3, q5⟩
theorem ea_nil : EvA X T EE [] (fun _ S => .ok [] S) := ⟨pa_nil.dimp fun σ H Q h => by
  obtain ⟨γ, hid, S, ρ, hold, env, h⟩ := h
  exact h γ H [] hold (Ext.refl _ _ _) .nil⟩
def consM (x : M D) (y : M (List D)) : M (List D) := M.bind (x) fun d => M.bind (y) fun l S => .ok (d :: l) S
theorem ea_cons (ha : EvE X T EE e f) (hr : EvA X T EE es fs) (hs : starEach (e :: es) X.env = (false, eval e X.env) :: starEach es X.env := by rfl) : EvA X T EE (e :: es) (fun ρ => consM (f ρ) (fs ρ)) := by
  refine ⟨(pa_cons ha.pe hr.pa hs).dimp fun σ H Q h => ?_⟩
  refine (show dG X.K T EE (repE X.K T) f σ H _ from ?_)
  obtain ⟨γ, hid, S, ρ, hold, env, h⟩ := h
  obtain ⟨_, _, _, _, h1, h2, h3⟩ := bindR (rep := repE X.K T) hold env h
  refine ⟨_, _, _, _, h1, h2, h3.imp fun x H1 ⟨d1, γ1, S1, q1, q2, q3, q4, q5⟩ => ?_⟩
  obtain ⟨_, _, _, _, h1, h2, h3⟩ := bindR (rep := repA X.K T) q1 q3 q5
  refine ⟨_, _, _, _, h1, h2, h3.imp fun y H2 ⟨d2, γ2, S2, w1, w2, w3, w4, w5⟩ => ?_⟩
  exact w5 γ2 H2 _ w1 (Ext.refl _ _ _) (.cons (w2.rp q4) w4)
/-- a tuple, few items -/
theorem ev_tup {x1 : Nat} (h : EvA X T EE es fs) : EvE X T EE (.Tuple es x1 pos) (fun ρ => M.bind (fs ρ) fun l => M.opt fun _ => if l.length ≤ sizeLine then some (.tup l) else none) := by
  refine ⟨(pe_tup h.pa).dimp fun σ H Q h => ?_⟩
  refine (show dG X.K T EE (repA X.K T) fs σ H _ from ?_)
  obtain ⟨_, _, _, _, h1, h2, h3⟩ := bindD (rep := repA X.K T) h
  refine ⟨_, _, _, _, h1, h2, h3.imp fun vs H1 ⟨l, γ1, hid, S1, ρ, q1, q3, q4, q5⟩ => ?_⟩
  obtain ⟨d, e, w5⟩ := opt_ok q5
  split at e
  · cases e
    refine ⟨by rw [← q4.length]; assumption, fun p np => ?_⟩
    obtain ⟨a1, a2, a3⟩ := q1.lay np (.tup vs)
    exact w5 γ1 _ _ a1 a2 (.tup (SqT.of (a3 hid (q1.fresh np).2)) (by assumption) (a2.rpl q4))
  · cases e
theorem evL_lst (h : EvA X T EE es fs) : EvL X T EE (.List es pos) (fun ρ => M.bind (fs ρ) fun l => M.opt fun _ => if l.length ≤ sizeLine then some l else none) := by
  refine ⟨(pe_lst h.pa).dimp fun σ H Q h => ?_⟩
  refine (show dG X.K T EE (repA X.K T) fs σ H _ from ?_)
  obtain ⟨_, _, _, _, h1, h2, h3⟩ := bindD (rep := repA X.K T) h
  refine ⟨_, _, _, _, h1, h2, h3.imp fun vs H1 ⟨l, γ1, hid, S1, ρ, q1, q3, q4, q5⟩ => ?_⟩
  obtain ⟨d, e, w5⟩ := opt_ok q5
  split at e
  · cases e
    refine ⟨by rw [← q4.length]; assumption, fun p np => ?_⟩
    exact w5 γ1 H1 vs q1 (Ext.refl _ _ _) ⟨by assumption, q4⟩ p np
  · cases e
/-- a new list, frozen -/
theorem ev_frz {fl : En → M (List D)} (h : EvL X T EE e fl) : EvE X T EE e (fun ρ => M.bind (fl ρ) fun l => kon (.lst l)) := by
  refine ⟨h.pe.dimp fun σ H Q h => ?_⟩
  refine (show dG X.K T EE (repL X.K T) fl σ H _ from ?_)
  obtain ⟨_, _, _, _, h1, h2, h3⟩ := bindD (rep := repL X.K T) h
  refine ⟨_, _, _, _, h1, h2, h3.imp fun vs H1 ⟨l, γ1, hid, S1, ρ, q1, q3, q4, q5⟩ p np => ?_⟩
  obtain ⟨a1, a2, a3⟩ := q1.lay np (.lst vs)
  exact q5 γ1 _ _ a1 a2 (.lst (SqL.of (a3 hid (q1.fresh np).2)) q4.1 (a2.rpl q4.2))
/-- a new list, a cell -/
def newC (l : List D) : M D := M.chg fun S => if flatL l = true then some (.ref S.length, S ++ [⟨true, .lst l⟩]) else none
theorem ev_cell {fl : En → M (List D)} (h : EvL X T EE e fl) : EvE X T EE e (fun ρ => M.bind (fl ρ) newC) := by
  refine ⟨h.pe.dimp fun σ H Q h => ?_⟩
  refine (show dG X.K T EE (repL X.K T) fl σ H _ from ?_)
  obtain ⟨_, _, _, _, h1, h2, h3⟩ := bindD (rep := repL X.K T) h
  refine ⟨_, _, _, _, h1, h2, h3.imp fun vs H1 ⟨l, γ1, hid, S1, ρ, q1, q3, q4, q5⟩ p np => ?_⟩
  unfold newC M.chg at q5
  by_cases fl : flatL l = true
  · simp only [if_pos fl] at q5
    obtain ⟨a1, a2⟩ := q1.newCell np (.lst q4.1 (RpL.toflat _ _ fl q4.2))
    refine q5 _ _ _ a1 a2 (.ref ?_)
    rw [← q1.len, List.getElem?_append_right (Nat.le_refl _), Nat.sub_self]
    rfl
  · simp only [if_neg fl] at q5
    exact q5.elim
/-- a cell that is read from now on -/
def fzM (d : D) : M D := M.chg fun S => match d with
  | .ref n => match S[n]? with
    | some ⟨_, .lst l⟩ => some (.lst l, S.set n ⟨false, .lst l⟩)
    | _ => none
  | d => some (d, S)
theorem Hold.fz {K : PySem.W.Frag} {γ hid : List Addr} {S S' : Cells} {H : Hp} {d d' : D} {v : V} (h : Hold K T γ hid S H) (r : Rp K T γ (out γ S hid H) d v) (e : fzM d S = .ok d' S') : Hold K T γ hid S' H ∧ Ext γ S H γ S' H ∧ Rp K T γ (out γ S' hid H) d' v := by
  unfold fzM M.chg at e
  cases r with
  | ref a =>
    rename_i n a'
    cases q : S[n]? with
    | none => simp [q] at e
    | some c =>
      obtain ⟨b, c⟩ := c
      cases c with
      | lst l =>
        simp only [q] at e
        cases e
        obtain ⟨a1, a2⟩ := h.freeze q
        obtain ⟨vs, h1, z, h2⟩ := h.list a q
        refine ⟨a1, a2, .lst (SqL.of (out_some.mpr ⟨fun z => h.hidG _ z (List.mem_of_getElem? a), ?_, h1⟩)) z ((RpL.nil_any (a2.sameH hid) h2))⟩
        exact a1.live a (List.getElem?_set_self (List.getElem?_eq_some_iff.mp q).1)
      | ins k fs => simp [q] at e
      | dct kvs => simp [q] at e
  | non => cases e; exact ⟨h, Ext.refl _ _ _, .non⟩
  | bl b => cases e; exact ⟨h, Ext.refl _ _ _, .bl b⟩
  | int i => cases e; exact ⟨h, Ext.refl _ _ _, .int i⟩
  | str x z => cases e; exact ⟨h, Ext.refl _ _ _, .str x z⟩
  | lst a z b => cases e; exact ⟨h, Ext.refl _ _ _, .lst a z b⟩
  | tup a z b => cases e; exact ⟨h, Ext.refl _ _ _, .tup a z b⟩
  | obj a b c => cases e; exact ⟨h, Ext.refl _ _ _, .obj a b c⟩
  | exc a => cases e; exact ⟨h, Ext.refl _ _ _, .exc a⟩
  | dc0 a => cases e; exact ⟨h, Ext.refl _ _ _, .dc0 a⟩
theorem fzM_noerr {d : D} {S S' : Cells} {x : Xc} : fzM d S ≠ .err x S' := by
  unfold fzM M.chg
  split <;> simp
theorem ev_fz (h : EvE X T EE e f) : EvE X T EE e (fun ρ => M.bind (f ρ) fzM) := by
  refine ⟨h.pe.dimp fun σ H Q h => ?_⟩
  refine (show dG X.K T EE (repE X.K T) f σ H _ from ?_)
  obtain ⟨_, _, _, _, h1, h2, h3⟩ := bindD (rep := repE X.K T) h
  refine ⟨_, _, _, _, h1, h2, h3.imp fun v H1 ⟨d, γ1, hid, S1, ρ, q1, q3, q4, q5⟩ => ?_⟩
  cases q : fzM d S1 with
  | ok d' S' =>
    rw [q] at q5
    obtain ⟨a1, a2, a3⟩ := q1.fz q4 q
    exact q5 _ _ _ a1 a2 a3
  | err x S' => exact absurd q fzM_noerr
  | stuck =>
    rw [q] at q5
    exact q5.elim
end

inductive Out where
  | nx (ρ : En) (S : Cells) | rt (d : D) (S : Cells) | bk (ρ : En) (S : Cells) | ct (ρ : En) (S : Cells) | er (x : Xc) (ρ : En) (S : Cells) | stuck
abbrev SM := En → Cells → Out
section
variable (K : PySem.W.Frag) (T : Tab) (EE : XX)
def resS (γ hid : List Addr) (S : Cells) (H : Hp) (o : Out) (Dn : Ends) : Prop := match o with
  | .nx ρ' S' => ∀ (γ' : List Addr) (H' : Hp) (σ' : St), Hold K T γ' hid S' H' → Ext γ S H γ' S' H' → EnvR K T γ' (out γ' S' hid H') ρ' σ' → Dn.nx σ' H'
  | .rt d S' => ∀ (γ' : List Addr) (H' : Hp) (v : V), Hold K T γ' hid S' H' → Ext γ S H γ' S' H' → Rp K T γ' (out γ' S' hid H') d v → Dn.rt v H'
  | .bk ρ' S' => ∀ (γ' : List Addr) (H' : Hp) (σ' : St), Hold K T γ' hid S' H' → Ext γ S H γ' S' H' → EnvR K T γ' (out γ' S' hid H') ρ' σ' → Dn.bk σ' H'
  | .ct ρ' S' => ∀ (γ' : List Addr) (H' : Hp) (σ' : St), Hold K T γ' hid S' H' → Ext γ S H γ' S' H' → EnvR K T γ' (out γ' S' hid H') ρ' σ' → Dn.ct σ' H'
  | .er x ρ' S' => ∀ (γ' : List Addr) (H' : Hp) (σ' : St), Hold K T γ' hid S' H' → Ext γ S H γ' S' H' → EnvR K T γ' (out γ' S' hid H') ρ' σ' → EE x ρ' γ' hid S' H' σ'
  | .stuck => False
def dS (F : SM) : TS := fun Dn σ H => ∃ γ hid S ρ, Hold K T γ hid S H ∧ EnvR K T γ (out γ S hid H) ρ σ ∧ resS K T EE γ hid S H (F ρ S) Dn
end
structure EvS (X : Cx) (T : Tab) (EE : XX) (st : Stmt) (F : SM) : Prop where
  ps : PS X st (dS X.K T EE F)
structure EvSs (X : Cx) (T : Tab) (EE : XX) (st : List Stmt) (F : SM) : Prop where
  ps : PSs X st (dS X.K T EE F)
theorem _root_.L2.PS.dimp {X : Cx} {e : Stmt} {t t' : TS} (h : PS X e t) (i : ∀ Dn σ H, t' Dn σ H → t Dn σ H) : PS X e t' := ⟨fun pins s σ H Q I q => h.run pins s σ H Q I (i _ _ _ q)⟩
theorem _root_.L2.PSs.dimp {X : Cx} {e : List Stmt} {t t' : TS} (h : PSs X e t) (i : ∀ Dn σ H, t' Dn σ H → t Dn σ H) : PSs X e t' := ⟨fun pins s σ H Q I q => h.run pins s σ H Q I (i _ _ _ q)⟩
section
variable {K : PySem.W.Frag} {T : Tab} {EE : XX}
theorem resS.base {γ γ1 hid : List Addr} {S S1 : Cells} {H H1 : Hp} {o : Out} {Dn : Ends} (h : resS K T EE γ hid S H o Dn) (e : Ext γ S H γ1 S1 H1) : resS K T EE γ1 hid S1 H1 o Dn := by
  cases o with
  | nx ρ S' => exact fun γ' H' σ' a1 a2 a3 => h γ' H' σ' a1 (e.trans a2) a3
  | rt d S' => exact fun γ' H' σ' a1 a2 a3 => h γ' H' σ' a1 (e.trans a2) a3
  | bk ρ S' => exact fun γ' H' σ' a1 a2 a3 => h γ' H' σ' a1 (e.trans a2) a3
  | ct ρ S' => exact fun γ' H' σ' a1 a2 a3 => h γ' H' σ' a1 (e.trans a2) a3
  | er x ρ S' => exact fun γ' H' σ' a1 a2 a3 => h γ' H' σ' a1 (e.trans a2) a3
  | stuck => exact h
def bindS {α : Type} (f : En → M α) (g : α → SM) : SM := fun ρ S => match f ρ S with
  | .ok a S' => g a ρ S'
  | .err x S' => .er x ρ S'
  | .stuck => .stuck
/-- an expression at a statement's start -/
theorem bindSR {α β : Type} {rep : List Addr → Hp → α → β → Prop} {γ hid : List Addr} {S : Cells} {H : Hp} {ρ : En} {σ : St} {Dn : Ends} {f : En → M α} {g : α → SM}
    (hold : Hold K T γ hid S H) (env : EnvR K T γ (out γ S hid H) ρ σ) (h : resS K T EE γ hid S H (bindS f g ρ S) Dn) :
    dG K T EE rep f σ H fun b H1 => ∃ a γ1 S1, Hold K T γ1 hid S1 H1 ∧ Ext γ S H γ1 S1 H1 ∧ EnvR K T γ1 (out γ1 S1 hid H1) ρ σ ∧ rep γ1 (out γ1 S1 hid H1) a b ∧ resS K T EE γ1 hid S1 H1 (g a ρ S1) Dn := by
  refine ⟨γ, hid, S, ρ, hold, env, ?_⟩
  unfold bindS at h
  cases q : f ρ S with
  | ok a S1 =>
    rw [q] at h
    exact fun γ1 H1 b a1 a2 a3 => ⟨a, γ1, S1, a1, a2, env.mono a2.pre (a2.sameH hid), a3, h.base a2⟩
  | err x S1 =>
    rw [q] at h
    exact fun γ' H' a1 a2 => h γ' H' σ a1 a2 (env.mono a2.pre (a2.sameH hid))
  | stuck =>
    rw [q] at h
    exact h
theorem bindSD {α β : Type} {rep : List Addr → Hp → α → β → Prop} {σ : St} {H : Hp} {Dn : Ends} {f : En → M α} {g : α → SM} (h : dS K T EE (bindS f g) Dn σ H) :
    dG K T EE rep f σ H fun b H1 => ∃ a γ1 hid S1 ρ, Hold K T γ1 hid S1 H1 ∧ EnvR K T γ1 (out γ1 S1 hid H1) ρ σ ∧ rep γ1 (out γ1 S1 hid H1) a b ∧ resS K T EE γ1 hid S1 H1 (g a ρ S1) Dn := by
  obtain ⟨γ, hid, S, ρ, hold, env, h⟩ := h
  obtain ⟨_, _, _, _, h1, h2, h3⟩ := bindSR (rep := rep) hold env h
  exact ⟨_, _, _, _, h1, h2, h3.imp fun b H1 ⟨a, γ1, S1, q1, q2, q3, q4, q5⟩ => ⟨a, γ1, hid, S1, ρ, q1, q3, q4, q5⟩⟩
end
section
variable {X : Cx} {T : Tab} {EE : XX} {a b e : Expr} {st : Stmt} {rest : List Stmt} {f : En → M D} {F G : SM} {pos : Pos}
def nxS : SM := fun ρ S => .nx ρ S
def seqS (F G : SM) : SM := fun ρ S => match F ρ S with
  | .nx ρ' S' => G ρ' S'
  | o => o
theorem es_nil : EvSs X T EE [] nxS := ⟨pss_nil.dimp fun Dn σ H h => by
  obtain ⟨γ, hid, S, ρ, hold, env, h⟩ := h
  exact h γ H σ hold (Ext.refl _ _ _) env⟩
theorem es_cons (h1 : EvS X T EE st F) (h2 : EvSs X T EE rest G) : EvSs X T EE (st :: rest) (seqS F G) := by
  refine ⟨(pss_cons h1.ps h2.ps).dimp fun Dn σ H h => ?_⟩
  obtain ⟨γ, hid, S, ρ, hold, env, h⟩ := h
  refine ⟨γ, hid, S, ρ, hold, env, ?_⟩
  unfold seqS at h
  cases q : F ρ S with
  | nx ρ' S' =>
    rw [q] at h
    exact fun γ' H' σ' a1 a2 a3 => ⟨γ', hid, S', ρ', a1, a3, h.base a2⟩
  | rt d S' => rw [q] at h; exact h
  | bk ρ S' => rw [q] at h; exact h
  | ct ρ S' => rw [q] at h; exact h
  | er x ρ S' => rw [q] at h; exact h
  | stuck => rw [q] at h; exact h
theorem es_one (h1 : EvS X T EE st F) : EvSs X T EE [st] F := ⟨pss_one h1.ps⟩
theorem es_never : EvS X T EE st (fun _ _ => .stuck) := ⟨ps_never.dimp fun Dn σ H h => by
  obtain ⟨γ, hid, S, ρ, hold, env, h⟩ := h
  exact h⟩
theorem es_expr (he : EvE X T EE e f) (hs : swapsWith e none pos.line X.env = pure false := by rfl) : EvS X T EE (.Expr e pos) (bindS f fun _ => nxS) := by
  refine ⟨(ps_expr he.pe hs).dimp fun Dn σ H h => ?_⟩
  refine (show dG X.K T EE (repE X.K T) f σ H _ from ?_)
  obtain ⟨_, _, _, _, h1, h2, h3⟩ := bindSD (rep := repE X.K T) h
  refine ⟨_, _, _, _, h1, h2, h3.imp fun v H1 ⟨d, γ1, hid, S1, ρ, q1, q3, q4, q5⟩ => ?_⟩
  exact q5 γ1 H1 σ q1 (Ext.refl _ _ _) q3
theorem es_ret (he : EvE X T EE e f) : EvS X T EE (.Return (some e) pos) (bindS f fun d _ S => .rt d S) := by
  refine ⟨(ps_ret he.pe).dimp fun Dn σ H h => ?_⟩
  refine (show dG X.K T EE (repE X.K T) f σ H _ from ?_)
  obtain ⟨_, _, _, _, h1, h2, h3⟩ := bindSD (rep := repE X.K T) h
  refine ⟨_, _, _, _, h1, h2, h3.imp fun v H1 ⟨d, γ1, hid, S1, ρ, q1, q3, q4, q5⟩ => ?_⟩
  exact q5 γ1 H1 v q1 (Ext.refl _ _ _) q4
theorem es_if {c : Expr} {as bs : List Stmt} {tc : En → M Bool} (hc : EvT X T EE c tc) (ha : EvSs X T EE as F) (hb : EvSs X T EE bs G) : EvS X T EE (.If c as bs pos) (bindS tc fun k => if k = true then F else G) := by
  refine ⟨(ps_if hc.pt ha.ps hb.ps).dimp fun Dn σ H h => ?_⟩
  refine (show dG X.K T EE repB tc σ H _ from ?_)
  obtain ⟨_, _, _, _, h1, h2, h3⟩ := bindSD (rep := repB) h
  refine ⟨_, _, _, _, h1, h2, h3.imp fun c H1 ⟨k, γ1, hid, S1, ρ, q1, q3, q4, q5⟩ => ?_⟩
  have q4' : k = c := q4
  subst q4'
  cases k with
  | true =>
    rw [if_pos rfl] at q5
    rw [if_pos rfl]
    exact ⟨γ1, hid, S1, ρ, q1, q3, q5⟩
  | false =>
    rw [if_neg Bool.false_ne_true] at q5
    rw [if_neg Bool.false_ne_true]
    exact ⟨γ1, hid, S1, ρ, q1, q3, q5⟩
/-- name = e -/
theorem es_set {i : Nat} {x : Str} {pos' : Pos} (hN : X.N.Nodup) (hi : X.N[i]? = some x) (hx : Loc X.env.scope x) (he : EvE X T EE e f) (hs : swapsWith e (some (.Name x pos')) pos.line X.env = pure false := by rfl) (hf : X.fn x = true ∨ X.env.scope.names.lookup x = some .local := by first | exact .inl rfl | exact .inr rfl | assumption) :
    EvS X T EE (.Assign [.Name x pos'] e pos) (bindS f fun d ρ S => .nx (ρ.set i (some d)) S) := by
  refine ⟨(ps_set hN hi hx he.pe hs hf).dimp fun Dn σ H h => ?_⟩
  refine (show dG X.K T EE (repE X.K T) f σ H _ from ?_)
  obtain ⟨_, _, _, _, h1, h2, h3⟩ := bindSD (rep := repE X.K T) h
  refine ⟨_, _, _, _, h1, h2, h3.imp fun v H1 ⟨d, γ1, hid, S1, ρ, q1, q3, q4, q5⟩ => ?_⟩
  exact q5 γ1 H1 _ q1 (Ext.refl _ _ _) (q3.set i q4)
end
end DL
end
section
set_option maxHeartbeats 2000000
namespace DL
open PySem PySem.Spec L2
open PyProof.Rows hiding St

inductive Pat where
  | nm (i : Nat) | tp (l : List Pat)
mutual
def Pat.put : Pat → D → En → Option En
  | .nm i, d, ρ => some (ρ.set i (some d))
  | .tp ps, d, ρ => match d with
    | .tup ds => putL ps ds ρ
    | _ => none
def putL : List Pat → List D → En → Option En
  | [], [], ρ => some ρ
  | p :: ps, d :: ds, ρ => match p.put d ρ with
    | some ρ' => putL ps ds ρ'
    | none => none
  | _, _, _ => none
end
mutual
def Pat.tg (K : PySem.W.Frag) : Pat → TG
  | .nm i => gName i
  | .tp ps => gTup K ps.length (tgL K ps)
def tgL (K : PySem.W.Frag) : List Pat → TGs
  | [] => gNil
  | p :: ps => gCons (p.tg K) (tgL K ps)
end
mutual
def Pat.slots : Pat → List Nat
  | .nm i => [i]
  | .tp ps => slotsL ps
def slotsL : List Pat → List Nat
  | [] => []
  | p :: ps => p.slots ++ slotsL ps
end
structure EvG (X : Cx) (e : Expr) (p : Pat) : Prop where
  pg : PG X e (p.tg X.K)
structure EvGs (X : Cx) (es : List Expr) (ps : List Pat) : Prop where
  pgs : PGs X es (tgL X.K ps)
section
variable {X : Cx} {pos : Pos}
theorem eg_name (i : Nat) {x : Str} (hN : X.N.Nodup) (hi : X.N[i]? = some x) (hx : Loc X.env.scope x) (hf : X.fn x = true ∨ X.env.scope.names.lookup x = some .local := by first | exact .inl rfl | exact .inr rfl | assumption) : EvG X (.Name x pos) (.nm i) := ⟨pg_name hN hi hx hf⟩
theorem egs_nil : EvGs X [] [] := ⟨pgs_nil⟩
theorem egs_cons {e : Expr} {es : List Expr} {p : Pat} {ps : List Pat} (h1 : EvG X e p) (h2 : EvGs X es ps) (hs : (assignEach (e :: es) X.env).map (·.2) = assign e X.env :: (assignEach es X.env).map (·.2) := by rfl) : EvGs X (e :: es) (p :: ps) := ⟨pgs_cons h1.pg h2.pgs hs⟩
theorem eg_tup {es : List Expr} {k : Nat} {ps : List Pat} (hc : X.calm = true) (h : EvGs X es ps) (hn : (assignEach es X.env).length = ps.length := by rfl) (hst : (assignEach es X.env).findIdx? (·.1) = none := by rfl) : EvG X (.Tuple es k pos) (.tp ps) := ⟨pg_tup hc h.pgs hn hst⟩
end
theorem wipe_get (σ : St) : ∀ (vs : List Nat) (j : Nat), (wipe σ vs)[j]? = if j ∈ vs then (if j < σ.length then some none else none) else σ[j]?
  | [], j => by simp [wipe]
  | v :: vs, j => by
    unfold wipe
    rw [List.getElem?_set, wipe_get σ vs j, wipe_length]
    by_cases h : v = j
    · subst h
      simp
    · simp [h, Ne.symm h]
theorem wipe_set {σ : St} {vs : List Nat} {i : Nat} {x : Option V} (h : i ∈ vs) : wipe (σ.set i x) vs = wipe σ vs := by
  apply List.ext_getElem?
  intro j
  rw [wipe_get, wipe_get, List.length_set]
  by_cases hj : j ∈ vs
  · rw [if_pos hj, if_pos hj]
  · rw [if_neg hj, if_neg hj, List.getElem?_set_ne]
    rintro rfl
    exact hj h
theorem wipe_wipe (σ : St) (vs : List Nat) : wipe (wipe σ vs) vs = wipe σ vs := by
  apply List.ext_getElem?
  intro j
  rw [wipe_get, wipe_length, wipe_get]
  by_cases hj : j ∈ vs
  · rw [if_pos hj, if_pos hj]
  · rw [if_neg hj, if_neg hj]
section
variable {K : PySem.W.Frag} {T : Tab} {γ : List Addr} {F H : Hp}
mutual
theorem put_ok (hs : Same F H) : ∀ (p : Pat) (d : D) (v : V) (ρ ρ' : En) (σ : St) (Q : St → Hp → Prop), EnvR K T γ F ρ σ → Rp K T γ F d v → p.put d ρ = some ρ' →
    (∀ σ', EnvR K T γ F ρ' σ' → (∀ vs : List Nat, (∀ i ∈ p.slots, i ∈ vs) → wipe σ' vs = wipe σ vs) → Q σ' H) → p.tg K v σ H Q
  | .nm i, d, v, ρ, ρ', σ, Q, env, r, e, q => by
    unfold Pat.put at e
    cases e
    unfold Pat.tg
    exact q _ (env.set i r) fun vs h => wipe_set (h i (by simp [Pat.slots]))
  | .tp ps, .tup ds, v, ρ, ρ', σ, Q, env, r, e, q => by
    unfold Pat.put at e
    unfold Pat.tg
    cases r with
    | tup a z b =>
      have hl : ds.length = ps.length := putL_len ps ds ρ ρ' e
      refine ⟨_, _, rfl, same_seqT hs a, by rw [← b.length, hl], ?_⟩
      exact putL_ok hs ps ds _ ρ ρ' σ Q env b e fun σ' h1 h2 => q σ' h1 fun vs h => h2 vs (by unfold Pat.slots at h; exact h)
  | .tp ps, .non, _, _, _, _, _, _, _, e, _ => by unfold Pat.put at e; cases e
  | .tp ps, .bl _, _, _, _, _, _, _, _, e, _ => by unfold Pat.put at e; cases e
  | .tp ps, .int _, _, _, _, _, _, _, _, e, _ => by unfold Pat.put at e; cases e
  | .tp ps, .str _, _, _, _, _, _, _, _, e, _ => by unfold Pat.put at e; cases e
  | .tp ps, .lst _, _, _, _, _, _, _, _, e, _ => by unfold Pat.put at e; cases e
  | .tp ps, .ref _, _, _, _, _, _, _, _, e, _ => by unfold Pat.put at e; cases e
  | .tp ps, .obj _ _, _, _, _, _, _, _, _, e, _ => by unfold Pat.put at e; cases e
  | .tp ps, .ext _ _, _, _, _, _, _, _, _, e, _ => by unfold Pat.put at e; cases e
theorem putL_ok (hs : Same F H) : ∀ (ps : List Pat) (ds : List D) (vs : List V) (ρ ρ' : En) (σ : St) (Q : St → Hp → Prop), EnvR K T γ F ρ σ → RpL K T γ F ds vs → putL ps ds ρ = some ρ' →
    (∀ σ', EnvR K T γ F ρ' σ' → (∀ ws : List Nat, (∀ i ∈ slotsL ps, i ∈ ws) → wipe σ' ws = wipe σ ws) → Q σ' H) → tgL K ps vs σ H Q
  | [], [], _, ρ, ρ', σ, Q, env, r, e, q => by
    cases r
    unfold putL at e
    cases e
    unfold tgL
    exact ⟨rfl, q σ env fun _ _ => rfl⟩
  | p :: ps, d :: ds, _, ρ, ρ', σ, Q, env, r, e, q => by
    cases r with
    | cons a b =>
      unfold putL at e
      cases e1 : p.put d ρ with
      | none => rw [e1] at e; cases e
      | some ρ1 =>
        rw [e1] at e
        unfold tgL
        refine ⟨_, _, rfl, put_ok hs p d _ ρ ρ1 σ _ env a e1 fun σ1 h1 h2 => ?_⟩
        refine putL_ok hs ps ds _ ρ1 ρ' σ1 Q h1 b e fun σ2 h3 h4 => q σ2 h3 fun ws hw => ?_
        rw [h4 ws fun i hi => hw i (by unfold slotsL; exact List.mem_append_right _ hi), h2 ws fun i hi => hw i (by unfold slotsL; exact List.mem_append_left _ hi)]
  | [], d :: ds, _, _, _, _, _, _, _, e, _ => by unfold putL at e; cases e
  | p :: ps, [], _, _, _, _, _, _, _, e, _ => by unfold putL at e; cases e
theorem putL_len : ∀ (ps : List Pat) (ds : List D) (ρ ρ' : En), putL ps ds ρ = some ρ' → ds.length = ps.length
  | [], [], _, _, _ => rfl
  | p :: ps, d :: ds, ρ, ρ', e => by
    unfold putL at e
    cases e1 : p.put d ρ with
    | none => rw [e1] at e; cases e
    | some ρ1 =>
      rw [e1] at e
      simp [putL_len ps ds ρ1 ρ' e]
  | [], d :: ds, _, _, e => by unfold putL at e; cases e
  | p :: ps, [], _, _, e => by unfold putL at e; cases e
end
end
section
variable {X : Cx} {T : Tab} {EE : XX} {e tg : Expr} {f : En → M D} {pos : Pos}
/-- target = e -/
def asgD (f : En → M D) (p : Pat) : SM := bindS f fun d ρ S => match p.put d ρ with
  | some ρ' => .nx ρ' S
  | none => .stuck
theorem es_asg {p : Pat} (he : EvE X T EE e f) (hg : EvG X tg p) (hs : swapsWithSole [tg] e pos.line X.env = pure false := by rfl) (hw : swappedStores [tg] e X.env = pure none := by rfl)
    (h1 : (assignEach [tg] X.env).map (·.2) = [assign tg X.env] := by rfl) : EvS X T EE (.Assign [tg] e pos) (asgD f p) := by
  refine ⟨(ps_asg he.pe hg.pg hs hw h1).dimp fun Dn σ H h => ?_⟩
  refine (show dG X.K T EE (repE X.K T) f σ H _ from ?_)
  obtain ⟨_, _, _, _, h1, h2, h3⟩ := bindSD (rep := repE X.K T) h
  refine ⟨_, _, _, _, h1, h2, h3.imp fun v H1 ⟨d, γ1, hid, S1, ρ, q1, q3, q4, q5⟩ => ?_⟩
  cases e1 : p.put d ρ with
  | none =>
    rw [e1] at q5
    exact q5.elim
  | some ρ' =>
    rw [e1] at q5
    exact put_ok (out_sub _ _ _ _) p d v ρ ρ' σ _ q3 q4 e1 fun σ' a1 _ => q5 γ1 H1 σ' q1 (Ext.refl _ _ _) a1
/-- a, b = x, y (plain local names) -/
theorem es_par {i j : Nat} {x y : Str} {a b : Expr} {fs : En → M (List D)} {px py pt : Pos} {kt k2 : Nat} {pt2 : Pos} (hc : X.calm = true) (hN : X.N.Nodup) (hi : X.N[i]? = some x) (hj : X.N[j]? = some y) (hij : i ≠ j)
    (hx : X.env.scope.names.lookup x = some .local) (hy : X.env.scope.names.lookup y = some .local) (ha : EvA X T EE [a, b] fs)
    (hw : swappedStores [.Tuple [.Name x px, .Name y py] kt pt] (.Tuple [a, b] k2 pt2) X.env = pure (some [x, y]))
    (hs : swapsWithSole [.Tuple [.Name x px, .Name y py] kt pt] (.Tuple [a, b] k2 pt2) pos.line X.env = pure false := by rfl) :
    EvS X T EE (.Assign [.Tuple [.Name x px, .Name y py] kt pt] (.Tuple [a, b] k2 pt2) pos) (bindS fs fun l ρ S => match l with
      | [d, e] => .nx ((ρ.set i (some d)).set j (some e)) S
      | _ => .stuck) := by
  refine ⟨(ps_par hc hN hi hj hij hx hy ha.pa hw hs).dimp fun Dn σ H h => ?_⟩
  refine (show dG X.K T EE (repA X.K T) fs σ H _ from ?_)
  obtain ⟨_, _, _, _, h1, h2, h3⟩ := bindSD (rep := repA X.K T) h
  refine ⟨_, _, _, _, h1, h2, h3.imp fun vs H1 ⟨l, γ1, hid, S1, ρ, q1, q3, q4, q5⟩ => ?_⟩
  cases q4 with
  | nil => exact q5.elim
  | cons r1 r =>
    cases r with
    | nil => exact q5.elim
    | cons r2 r =>
      cases r with
      | nil => exact ⟨_, _, rfl, q5 γ1 H1 _ q1 (Ext.refl _ _ _) ((q3.set i r1).set j r2)⟩
      | cons r3 r => exact q5.elim
end

/-- J gives these items, whenever what stood still stands -/
def repI (K : PySem.W.Frag) (T : Tab) : List Addr → Hp → List D → It → Prop := fun γ F items J =>
  items.length ≤ sizeLine ∧ ∀ (γ2 hid2 : List Addr) (S2 : Cells) (H2 : Hp), (∀ (n : Nat) (a : Addr), γ[n]? = some a → γ2[n]? = some a) → Same F (out γ2 S2 hid2 H2) → Hold K T γ2 hid2 S2 H2 →
    (∀ i, i < items.length → J.go i H2) ∧ J.stop items.length H2 ∧
    ∀ i x H3, i < items.length → J.yld i H2 x H3 → ∃ d, items[i]? = some d ∧ Hold K T γ2 hid2 S2 H3 ∧ Ext γ2 S2 H2 γ2 S2 H3 ∧ Rp K T γ2 (out γ2 S2 hid2 H3) d x
def dI (K : PySem.W.Frag) (T : Tab) (EE : XX) (f : En → M (List D)) : TI := fun σ H R => dG K T EE (repI K T) f σ H R
structure EvI (X : Cx) (T : Tab) (EE : XX) (tg iter : Expr) (f : En → M (List D)) : Prop where
  pi : PI X tg iter (dI X.K T EE f)
theorem _root_.L2.PI.dimp {X : Cx} {tg e : Expr} {t t' : TI} (h : PI X tg e t) (i : ∀ σ H Q, t' σ H Q → t σ H Q) : PI X tg e t' := ⟨fun pins s σ H Q I q => h.run pins s σ H Q I (i _ _ _ q)⟩
theorem _root_.L2.PI.or2 {X : Cx} {tg e : Expr} {t t' : TI} (h : PI X tg e t) (h' : PI X tg e t') : PI X tg e (fun σ H R => t σ H R ∨ t' σ H R) := ⟨fun pins s σ H Q I q => q.elim (h.run pins s σ H Q I) (h'.run pins s σ H Q I)⟩
section
variable {K : PySem.W.Frag} {T : Tab} {γ : List Addr} {F : Hp}
theorem repI_list {a : Addr} {ds : List D} {vs : List V} (hq : SqL K F a vs) (z : ds.length ≤ sizeLine) (r : RpL K T γ F ds vs) : repI K T γ F ds (Itl K a) := by
  refine ⟨z, fun γ2 hid2 S2 H2 hp hs hh => ?_⟩
  have hq2 : SqL K H2 a vs := (out_sub _ _ _ _).seq (hs.seq hq)
  have hl := r.length
  refine ⟨fun i hi => ⟨vs, vs[i]'(by omega), hq2, List.getElem?_eq_getElem _⟩, ⟨vs, hq2, by omega⟩, fun i x H3 hi y => ?_⟩
  obtain ⟨e, y⟩ := y
  subst e
  obtain ⟨d, e1, r1⟩ := r.get' (y vs hq2)
  exact ⟨d, e1, hh, Ext.refl _ _ _, Rp.mono hp hs d x r1⟩
theorem repI_tup {a : Addr} {ds : List D} {vs : List V} (hq : SqT K F a vs) (z : ds.length ≤ sizeLine) (r : RpL K T γ F ds vs) : repI K T γ F ds (Itt K a) := by
  refine ⟨z, fun γ2 hid2 S2 H2 hp hs hh => ?_⟩
  have hq2 : SqT K H2 a vs := same_seqT (out_sub _ _ _ _) (same_seqT hs hq)
  have hl := r.length
  refine ⟨fun i hi => ⟨vs, vs[i]'(by omega), hq2, List.getElem?_eq_getElem _⟩, ⟨vs, hq2, by omega⟩, fun i x H3 hi y => ?_⟩
  obtain ⟨e, y⟩ := y
  subst e
  obtain ⟨d, e1, r1⟩ := r.get' (y vs hq2)
  exact ⟨d, e1, hh, Ext.refl _ _ _, Rp.mono hp hs d x r1⟩
/-- the signs of a text -/
def signsD (x : Str) : List D := x.cps.toList.map fun c => .str ⟨#[c]⟩
theorem one_sign {c : Nat} : (⟨#[c]⟩ : Str).length ≤ sizeLine := by
  rw [sizeLine_eq]
  show 1 ≤ _
  decide
theorem repI_str (x : Str) (z : x.length ≤ sizeLine) : repI K T γ F (signsD x) (Its x) := by
  have hl : (signsD x).length = x.cps.size := by simp [signsD]
  refine ⟨by rw [hl]; exact z, fun γ2 hid2 S2 H2 hp hs hh => ?_⟩
  refine ⟨fun i hi => by rw [hl] at hi; exact hi, by show x.cps.size ≤ _; omega, fun i v H3 hi y => ?_⟩
  obtain ⟨e, c, ec, ev⟩ := y
  subst e
  subst ev
  refine ⟨.str ⟨#[c]⟩, ?_, hh, Ext.refl _ _ _, .str _ one_sign⟩
  unfold signsD
  rw [List.getElem?_map, Array.getElem?_toList, ec]
  rfl
theorem repI_range (lo : Int) (n : Nat) (z : n ≤ sizeLine) : repI K T γ F ((List.range n).map fun i => D.int (lo + (i : Nat))) (Itr lo n) := by
  have hl : ((List.range n).map fun i => D.int (lo + (i : Nat))).length = n := by simp
  refine ⟨by rw [hl]; exact z, fun γ2 hid2 S2 H2 hp hs hh => ?_⟩
  refine ⟨fun i hi => by rw [hl] at hi; exact hi, by show n ≤ _; omega, fun i v H3 hi y => ?_⟩
  obtain ⟨e, ev⟩ := y
  subst e
  subst ev
  rw [hl] at hi
  refine ⟨.int (lo + i), ?_, hh, Ext.refl _ _ _, .int _⟩
  rw [List.getElem?_map, List.getElem?_range hi]
  rfl
theorem two_small : ([D.non, D.non] : List D).length ≤ sizeLine := by
  rw [sizeLine_eq]
  decide
def pairsD (l m : List D) : List D := (l.zip m).map fun p => .tup [p.1, p.2]
theorem repI_zip {a b : Addr} {ds es : List D} {vs ws : List V} (hq : SqL K F a vs) (hq' : SqL K F b ws) (z : ds.length ≤ sizeLine) (r : RpL K T γ F ds vs) (r' : RpL K T γ F es ws) : repI K T γ F (pairsD ds es) (Itz K a b) := by
  have hl := r.length
  have hl' := r'.length
  have hn : (pairsD ds es).length = min ds.length es.length := by simp [pairsD]
  refine ⟨by omega, fun γ2 hid2 S2 H2 hp hs hh => ?_⟩
  have hq2 : SqL K H2 a vs := (out_sub _ _ _ _).seq (hs.seq hq)
  have hq3 : SqL K H2 b ws := (out_sub _ _ _ _).seq (hs.seq hq')
  have W := walk_zip (K := K) (a := a) (b := b) (xs := vs) (ys := ws) (n := min ds.length es.length) (by omega)
  rw [hn]
  refine ⟨fun i hi => W.goes i H2 hi ⟨hq2, hq3⟩, W.stops H2 ⟨hq2, hq3⟩, fun i x H3 hi y => ?_⟩
  obtain ⟨t, x1, x2, e1, nt, e2, g1, g2⟩ := W.yields i H2 x H3 hi ⟨hq2, hq3⟩ y
  subst e1
  subst e2
  obtain ⟨d1, f1, r1⟩ := r.get' g1
  obtain ⟨d2, f2, r2⟩ := r'.get' g2
  obtain ⟨a1, a2, a3⟩ := hh.lay nt (.tup [x1, x2])
  refine ⟨.tup [d1, d2], ?_, a1, a2, .tup (SqT.of (a3 hid2 (hh.fresh nt).2)) two_small (.cons (a2.rp (Rp.mono hp hs _ _ r1)) (.one (a2.rp (Rp.mono hp hs _ _ r2))))⟩
  unfold pairsD
  rw [List.getElem?_map, List.getElem?_zip_eq_some (z := (d1, d2)) |>.mpr ⟨f1, f2⟩]
  rfl
def enumD (l : List D) : List D := (l.zipIdx).map fun p => .tup [.int (p.2 : Nat), p.1]
end
/-- the items of what is walked -/
def itemsD (d : D) : Option (List D) := match d with
  | .lst l => some l
  | .tup l => some l
  | .str x => some (signsD x)
  | _ => none
section
variable {X : Cx} {T : Tab} {EE : XX} {tg e a b c : Expr} {f fa fb : En → M D} {fs : En → M (List D)} {p pos tpos : Pos} {elts : List Expr} {kk : Nat}
theorem ei_seq (he : EvE X T EE e f) : EvI X T EE tg e (fun ρ => M.bind (f ρ) fun d => M.opt fun _ => itemsD d) := by
  refine ⟨((pi_list he.pe).or2 ((pi_tup he.pe).or2 (pi_str he.pe))).dimp fun σ H R h => ?_⟩
  obtain ⟨γ, hid, S, ρ, hold, env, h⟩ := h
  cases q : f ρ S with
  | ok d S' =>
    have h' : resG X.K T EE (repI X.K T) γ hid S H ρ σ (M.opt (fun _ => itemsD d) S') R := by
      rw [← bind_of_ok (g := fun d => M.opt fun _ => itemsD d) q]
      exact h
    cases d with
    | lst l =>
      refine .inl ⟨γ, hid, S, ρ, hold, env, ?_⟩
      rw [q]
      intro γ' H' v a1 a2 a3
      cases a3 with
      | lst x z y => exact ⟨_, rfl, ⟨_, (out_sub _ _ _ _).seq x⟩, h' γ' H' _ a1 a2 (repI_list x z y)⟩
    | tup l =>
      refine .inr (.inl ⟨γ, hid, S, ρ, hold, env, ?_⟩)
      rw [q]
      intro γ' H' v a1 a2 a3
      cases a3 with
      | tup x z y => exact ⟨_, rfl, ⟨_, same_seqT (out_sub _ _ _ _) x⟩, h' γ' H' _ a1 a2 (repI_tup x z y)⟩
    | str x =>
      refine .inr (.inr ⟨γ, hid, S, ρ, hold, env, ?_⟩)
      rw [q]
      intro γ' H' v a1 a2 a3
      cases a3 with
      | str x z => exact ⟨_, rfl, h' γ' H' _ a1 a2 (repI_str _ z)⟩
    | non => exact (h' : False).elim
    | bl _ => exact (h' : False).elim
    | int _ => exact (h' : False).elim
    | ref _ => exact (h' : False).elim
    | obj _ _ => exact (h' : False).elim
    | ext _ _ => exact (h' : False).elim
  | err x S' =>
    have h' : resG X.K T EE (repI X.K T) γ hid S H ρ σ (.err x S') R := by
      rw [← bind_of_err (g := fun d => M.opt fun _ => itemsD d) q]
      exact h
    refine .inl ⟨γ, hid, S, ρ, hold, env, ?_⟩
    rw [q]
    exact h'
  | stuck =>
    have h' : resG X.K T EE (repI X.K T) γ hid S H ρ σ (.stuck : DL.R (List D)) R := by
      rw [← bind_of_stuck (g := fun d => M.opt fun _ => itemsD d) q]
      exact h
    exact h'.elim
def rangeD (lo hi : Int) : Option (List D) := if (-(2 ^ 62) ≤ lo ∧ lo < 2 ^ 62 ∧ -(2 ^ 62) ≤ hi ∧ hi < 2 ^ 62) ∧ (hi - lo).toNat ≤ sizeLine then some ((List.range (hi - lo).toNat).map fun i => D.int (lo + (i : Nat))) else none
def range1 (l : List D) : Option (List D) := match l with
  | [.int j] => rangeD 0 j
  | _ => none
def range2 (l : List D) : Option (List D) := match l with
  | [.int i, .int j] => rangeD i j
  | _ => none
theorem ei_range1 (hg : Gl X "range") (hm : X.mg "range" = none) (ha : EvA X T EE [a] fs) (hs : starEach [a] X.env = [(false, eval a X.env)] := by rfl) : EvI X T EE tg (.Call (.Name "range" p) [a] [] pos) (fun ρ => M.bind (fs ρ) fun l => M.opt fun _ => range1 l) := by
  refine ⟨(pi_range1 hg hm ha.pa hs).dimp fun σ H R h => ?_⟩
  refine (show dG X.K T EE (repA X.K T) fs σ H _ from ?_)
  obtain ⟨_, _, _, _, h1, h2, h3⟩ := bindD (rep := repA X.K T) h
  refine ⟨_, _, _, _, h1, h2, h3.imp fun vs H1 ⟨l, γ1, hid, S1, ρ, q1, q3, q4, q5⟩ => ?_⟩
  obtain ⟨d, e, w5⟩ := opt_ok q5
  unfold range1 at e
  split at e
  · cases q4 with
    | cons r1 r =>
      cases r1
      cases r
      unfold rangeD at e
      split at e
      · rename_i hj
        cases e
        refine ⟨_, rfl, hj.1.2.2.1, hj.1.2.2.2, ?_⟩
        rw [Int.sub_zero] at w5 hj
        exact w5 γ1 H1 _ q1 (Ext.refl _ _ _) (repI_range 0 _ hj.2)
      · cases e
  · cases e
def zipA (l : List D) : Option (List D) := match l with
  | [.lst x, .lst y] => some (pairsD x y)
  | _ => none
theorem ei_zip (hg : Gl X "zip") (hm : X.mg "zip" = none) (ha : EvA X T EE [a, b] fs) (hs : starEach [a, b] X.env = (false, eval a X.env) :: starEach [b] X.env := by rfl) (hpl : (backTo pos (starEach [b] X.env)).any (·.1) = false := by rfl) :
    EvI X T EE (.Tuple elts kk tpos) (.Call (.Name "zip" p) [a, b] [] pos) (fun ρ => M.bind (fs ρ) fun l => M.opt fun _ => zipA l) := by
  refine ⟨(pi_zip hg hm ha.pa hs hpl).dimp fun σ H R h => ?_⟩
  refine (show dG X.K T EE (repA X.K T) fs σ H _ from ?_)
  obtain ⟨_, _, _, _, h1, h2, h3⟩ := bindD (rep := repA X.K T) h
  refine ⟨_, _, _, _, h1, h2, h3.imp fun vs H1 ⟨l, γ1, hid, S1, ρ, q1, q3, q4, q5⟩ => ?_⟩
  obtain ⟨d, e, w5⟩ := opt_ok q5
  unfold zipA at e
  split at e
  · cases e
    cases q4 with
    | cons r1 r =>
      cases r with
      | cons r2 r =>
        cases r
        cases r1 with
        | lst x z y =>
          cases r2 with
          | lst x' z' y' => exact ⟨_, _, _, _, rfl, (out_sub _ _ _ _).seq x, (out_sub _ _ _ _).seq x', w5 γ1 H1 _ q1 (Ext.refl _ _ _) (repI_zip x x' z y y')⟩
  · cases e
def enumA (l : List D) : Option (List D) := match l with
  | [.lst x] => some (enumD x)
  | _ => none
end

/-- behind a turn's body -/
def stepD (k : SM) : Out → Out
  | .nx ρ S => k ρ S
  | .ct ρ S => k ρ S
  | .bk ρ S => .nx ρ S
  | .rt d S => .rt d S
  | .er x ρ S => .er x ρ S
  | .stuck => .stuck
def putM (o : Option En) (k : En → Out) : Out := match o with
  | some ρ => k ρ
  | none => .stuck
def forD (p : Pat) (body : SM) : List D → SM
  | [], ρ, S => .nx ρ S
  | d :: ds, ρ, S => putM (p.put d ρ) fun ρ1 => stepD (forD p body ds) (body ρ1 S)
theorem forD_cons {p : Pat} {body : SM} {d : D} {ds : List D} {ρ : En} {S : Cells} : forD p body (d :: ds) ρ S = putM (p.put d ρ) fun ρ1 => stepD (forD p body ds) (body ρ1 S) := rfl
section
variable {X : Cx} {T : Tab} {EE : XX} {tg iter : Expr} {fi : En → M (List D)} {p : Pat} {body : List Stmt} {B : SM} {pos : Pos}
theorem es_for (hp : PassesOwn (model X.prog X.w) X.A X.env X.xe) (hc : X.calm = true) (hi : EvI X T EE tg iter fi) (hg : EvG X tg p) (hb : EvSs X T EE body B) (hs : ∀ x, foldedSetIterable iter X.env x = pure x := by intro _; rfl) :
    EvS X T EE (.For tg iter body [] pos) (bindS fi fun items => forD p B items) := by
  refine ⟨(ps_for hp hc hi.pi hg.pg hb.ps hs).dimp fun Dn σ H h => ?_⟩
  refine (show dG X.K T EE (repI X.K T) fi σ H _ from ?_)
  obtain ⟨_, _, _, _, h1, h2, h3⟩ := bindSD (rep := repI X.K T) h
  refine ⟨_, _, _, _, h1, h2, h3.imp fun J H1 ⟨items, γ1, hid, S1, ρ1, q1, q3, q4, q5⟩ => ?_⟩
  obtain ⟨z, q4⟩ := q4
  refine ⟨fun i m σ' H' => m = items.length - i ∧ i ≤ items.length ∧ ∃ γ2 S2 ρ2, Hold X.K T γ2 hid S2 H' ∧ (∀ (n : Nat) (a : Addr), γ1[n]? = some a → γ2[n]? = some a) ∧ Same (out γ1 S1 hid H1) (out γ2 S2 hid H') ∧ EnvR X.K T γ2 (out γ2 S2 hid H') ρ2 σ' ∧
    resS X.K T EE γ2 hid S2 H' (forD p B (items.drop i) ρ2 S2) Dn, ⟨items.length, by simp, Nat.zero_le _, γ1, S1, ρ1, q1, fun _ _ z => z, Same.refl _, q3, q5⟩, ?_⟩
  rintro i m σ' H' ⟨rfl, hi, γ2, S2, ρ2, w1, w2, w3, w4, w5⟩
  obtain ⟨g1, g2, g3⟩ := q4 γ2 hid S2 H' w2 w3 w1
  by_cases hlt : i < items.length
  · refine .inr ⟨g1 i hlt, fun σ3 H3 => i + 1 ≤ items.length ∧ ∃ γ2 S2 ρ2, Hold X.K T γ2 hid S2 H3 ∧ (∀ (n : Nat) (a : Addr), γ1[n]? = some a → γ2[n]? = some a) ∧ Same (out γ1 S1 hid H1) (out γ2 S2 hid H3) ∧ EnvR X.K T γ2 (out γ2 S2 hid H3) ρ2 σ3 ∧
      resS X.K T EE γ2 hid S2 H3 (forD p B (items.drop (i + 1)) ρ2 S2) Dn, fun σ3 H3 hN => ⟨items.length - (i + 1), by omega, rfl, hN⟩, fun x H3 y => ?_⟩
    obtain ⟨d, e1, k1, k2, k3⟩ := g3 i x H3 hlt y
    have ed : items.drop i = d :: items.drop (i + 1) := by
      rw [List.drop_eq_getElem_cons hlt]
      have := (List.getElem?_eq_some_iff.mp e1).2
      rw [this]
    rw [ed, forD_cons] at w5
    have w5 := w5.base k2
    have w4 := w4.mono k2.pre (k2.sameH hid)
    cases ep : p.put d ρ2 with
    | none =>
      rw [ep] at w5
      exact w5.elim
    | some ρ3 =>
      rw [ep] at w5
      have w5 : resS X.K T EE γ2 hid S2 H3 (stepD (forD p B (items.drop (i + 1))) (B ρ3 S2)) Dn := w5
      refine put_ok (out_sub _ _ _ _) p d x ρ2 ρ3 σ' _ w4 k3 ep fun σ4 n1 _ => ?_
      refine ⟨γ2, hid, S2, ρ3, k1, n1, ?_⟩
      have go : ∀ {γ' : List Addr} {H4 : Hp} {σ5 : St} {ρ5 : En} {S5 : Cells}, Hold X.K T γ' hid S5 H4 → Ext γ2 S2 H3 γ' S5 H4 → EnvR X.K T γ' (out γ' S5 hid H4) ρ5 σ5 → resS X.K T EE γ2 hid S2 H3 (forD p B (items.drop (i + 1)) ρ5 S5) Dn →
          i + 1 ≤ items.length ∧ ∃ γ2 S2 ρ2, Hold X.K T γ2 hid S2 H4 ∧ (∀ (n : Nat) (a : Addr), γ1[n]? = some a → γ2[n]? = some a) ∧ Same (out γ1 S1 hid H1) (out γ2 S2 hid H4) ∧ EnvR X.K T γ2 (out γ2 S2 hid H4) ρ2 σ5 ∧
            resS X.K T EE γ2 hid S2 H4 (forD p B (items.drop (i + 1)) ρ2 S2) Dn := fun {γ' H4 σ5 ρ5 S5} a1 a2 a3 a4 =>
        ⟨hlt, γ', S5, ρ5, a1, fun n a z => a2.pre n a (w2 n a z), w3.trans ((k2.trans a2).sameH hid), a3, a4.base a2⟩
      cases eb : B ρ3 S2 with
      | nx ρ5 S5 =>
        rw [eb] at w5
        exact fun γ' H4 σ5 a1 a2 a3 => go a1 a2 a3 w5
      | ct ρ5 S5 =>
        rw [eb] at w5
        exact fun γ' H4 σ5 a1 a2 a3 => go a1 a2 a3 w5
      | bk ρ5 S5 =>
        rw [eb] at w5
        exact fun γ' H4 σ5 a1 a2 a3 => w5 γ' H4 σ5 a1 a2 a3
      | rt d5 S5 =>
        rw [eb] at w5
        exact w5
      | er x5 ρ5 S5 =>
        rw [eb] at w5
        exact w5
      | stuck =>
        rw [eb] at w5
        exact w5.elim
  · have e : i = items.length := by omega
    subst e
    refine .inl ⟨g2, ?_⟩
    rw [List.drop_length] at w5
    exact w5 γ2 H' σ' w1 (Ext.refl _ _ _) w4
end

def tstM (r : DL.R Bool) (ρ : En) (k : Cells → Out) : Out := match r with
  | .ok true S => k S
  | .ok false S => .nx ρ S
  | .err x S => .er x ρ S
  | .stuck => .stuck
def whileD (c : En → M Bool) (body : SM) : Nat → SM
  | 0, _, _ => .stuck
  | n + 1, ρ, S => tstM (c ρ S) ρ fun S1 => stepD (whileD c body n) (body ρ S1)
open Classical in
/-- with as many turns as are needed -/
noncomputable def whileW (c : En → M Bool) (body : SM) : SM := fun ρ S => if h : ∃ n, whileD c body n ρ S ≠ .stuck then whileD c body (Classical.choose h) ρ S else .stuck
section
variable {X : Cx} {T : Tab} {EE : XX} {c : Expr} {tc : En → M Bool} {body : List Stmt} {B : SM} {pos : Pos}
end
end DL
end
section
set_option maxHeartbeats 2000000
namespace DL
open PySem PySem.Spec L2
open PyProof.Rows hiding St
abbrev NoRepr (A : Around) : Prop := A.guards = some []
structure FnG (P : Program) (w : World) (K : PySem.W.Frag) (mg : Str → Option Value) (base : Heap) (k : Nat) (f : Addr) (fd : FuncData) (ps : List Str) (sp : Sp) : Prop where
  len : ∀ vs H Q E, sp vs H Q E → vs.length = ps.length
  run : ∀ (A : Around) (outer : List Env) (s : Shared) (H : Hp) (args : Args) (us : List Value) (vs : List V) (Q : VK) (E : XK), Room k A → NoRepr A →
    Env0 P w K mg base A outer s H → BindsTo s fd args (ps.zip us) → Vals vs us → sp vs H Q E → codeAny (model P w) A (.call (.ref f) args) (CR CX0 outer P w H s Q E) s
theorem FnG.mono {P : Program} {w : World} {K : PySem.W.Frag} {mg : Str → Option Value} {base : Heap} {j k : Nat} {f : Addr} {fd : FuncData} {ps : List Str} {sp : Sp} (F : FnG P w K mg base j f fd ps sp) (h : j ≤ k) : FnG P w K mg base k f fd ps sp :=
  ⟨F.len, fun A outer s H args us vs Q E hr => F.run A outer s H args us vs Q E (hr.mono h)⟩
theorem FnG.imp {P : Program} {w : World} {K : PySem.W.Frag} {mg : Str → Option Value} {base : Heap} {k : Nat} {f : Addr} {fd : FuncData} {ps : List Str} {sp sp' : Sp} (F : FnG P w K mg base k f fd ps sp) (i : ∀ vs H Q E, sp' vs H Q E → sp vs H Q E) :
    FnG P w K mg base k f fd ps sp' :=
  ⟨fun vs H Q E z => F.len vs H Q E (i _ _ _ _ z), fun A outer s H args us vs Q E a b c d e g => F.run A outer s H args us vs Q E a b c d e (i _ _ _ _ g)⟩
section
variable {P : Program} {w : World} {K : PySem.W.Frag} {mg : Str → Option Value} {base : Heap}
theorem fng_ok {x qual : Str} {params : Arguments} {body : List Stmt} {scope : Scope} {dvs : List V} {kws : List (Str × V)} {f : Addr} {fd : FuncData} {N ps : List Str} {k : Nat} {sp : Sp} (F : FunD K x qual params body scope dvs kws f fd) (S : FnScope N ps scope) (len : ∀ vs H Q E, sp vs H Q E → vs.length = ps.length)
    (hbody : ∀ (cdv : Value) (A : Around) (outer : List Env) (s : Shared) (H : Hp) (vs : List V) (Q : VK) (E : XK), Room k (A.deeper (envOfC qual scope s.heap.objs.size f cdv)) → NoRepr (A.deeper (envOfC qual scope s.heap.objs.size f cdv)) → sp vs H Q E →
      ∃ t, PSs (cxOf CX0 P w K mg base N qual scope f cdv A outer s H E).nox body t ∧ t { nx := fun _ H' => Q .non H', rt := Q } (L2.start N vs) H) : FnG P w K mg base (k + 1) f fd ps sp := by
  obtain ⟨oc, od, dV, kV, doc, pm, an, cdv, ct, osl, rfl, lk, hcd, _, _⟩ := F.ex
  refine ⟨len, fun A outer s H args us vs Q E room nr ev bd rv promise => ?_⟩
  have vl := len _ _ _ _ promise
  have kin : K.In s.heap := ev.mod.kin.keeps fun b o e => (ev.bs b o e).1
  have nl : s.heap.NoLimit := ev.mod.nolimit.keeps fun b o e => (ev.bs b o e).1
  have kinds : ∀ y ∈ ps.zip us, scope.names.lookup y.1 = some .local ∨ (scope.names.lookup y.1 = some .cell ∧ ((cellsFrom (s.heap.objs.size + 1) scope.names []).lookup y.1).isSome = true) := fun ⟨m, v⟩ hm => by
    cases S.par m (List.of_mem_zip hm).1 with
    | inl z => exact .inl z
    | inr z => exact .inr ⟨z, PySem.W.cellsFrom_some _ _ _ (.inl z)⟩
  refine codeAny_call_function room.depth (kin _ _ lk) rfl S.co S.gen rfl (PySem.W.codeRec_of kin hcd) (bd _ _ _ _ ?_)
  refine wpAny_newFunctionEnv_cells S.kind kinds fun env ee s1 ic => ?_
  subst ee
  refine ⟨nl.keeps ic.toInCall.keep, codeAny_func ?_⟩
  obtain ⟨t, ht, reading⟩ := hbody cdv A outer s H vs Q E (room.deeper _) nr promise
  have I0 : Inv (cxOf CX0 P w K mg base N qual scope f cdv A outer s H E) [] (L2.start N vs) H s1 := inv_start S room.hd ev vl rv ic
  refine wpAny_mono (ht.nox.run [] s1 (L2.start N vs) H _ I0 reading) (fun flow s' hs => ?_) fun e s' hs => hs
  cases flow with
  | ret u =>
    obtain ⟨v, σ', H', J, r, z⟩ := hs
    exact ⟨v, H', J.os, J.bare, J.base, J.hok, r, z⟩
  | next =>
    obtain ⟨σ', H', J, z⟩ := hs
    exact ⟨V.non, H', J.os, J.bare, J.base, J.hok, rfl, z⟩
  | brk =>
    obtain ⟨_, _, _, z⟩ := hs
    exact z.elim
  | cont =>
    obtain ⟨_, _, _, z⟩ := hs
    exact z.elim
end
section
variable {X : Cx} {k : Nat} {f C : Addr} {fd : FuncData} {ps : List Str} {sp : Sp} {x m : Str} {p pos apos : Pos} {e o : Expr} {es : List Expr} {ta : TE} {t : TA} {E : XK}
theorem rung {pins : List (Addr × Obj)} {σ : St} {H : Hp} {s : Shared} {Q : VK} {us : List Value} {vs : List V} (F : FnG X.prog X.w X.K X.mg X.base k f fd ps sp) (hr : Room k X.A) (nr : NoRepr X.A) (hb : Binds X.K fd ps [])
    (I : Inv X pins σ H s) (r : Vals vs us) (h : sp vs H Q E) : wpAny (model X.prog X.w) X.A (call (.ref f) us) (EP X pins σ Q) X.xe s := by
  have hl : us.length = ps.length := by rw [← r.length]; exact F.len _ _ _ _ h
  have hb' := hb s us I.kIn (by rw [List.append_nil]; exact hl)
  rw [List.append_nil] at hb'
  refine wpAny_call (codeAny_mono (F.run X.A X.stack s H ⟨us, []⟩ us vs Q E hr nr I.env0 hb' r h) fun res s' z => ?_)
  cases res with
  | error e => exact z.elim
  | ok flow =>
    cases flow with
    | ret u => exact I.after z
    | next => exact False.elim z
    | brk => exact False.elim z
    | cont => exact False.elim z
theorem pg_call (F : FnG X.prog X.w X.K X.mg X.base k f fd ps sp) (hr : Room k X.A) (nr : NoRepr X.A) (hg : Gl X x) (hm : X.mg x = some (.ref f)) (hk : PySem.W.keepIn X.K (.ref f) = true) (hb : Binds X.K fd ps [])
    (ha : PA X (e :: es) t) (hdb : (x == ("__debug__" : Str)) = false := by decide) (he : starEach (e :: es) X.env = (false, eval e X.env) :: starEach es X.env := by rfl) (hpl : (backTo pos (starEach es X.env)).any (·.1) = false := by rfl) :
    PE X (.Call (.Name x p) (e :: es) [] pos) (tCall sp [] E t) := by
  refine ⟨fun pins s σ H Q I h => wpAny_Call_Name_kw (ld_glob I hg hm ?_ hdb)⟩
  refine PySem.W.callWith_K (h₀ := X.base) I.ok.mod.kin hk (thn (ha.run pos pins s σ H _ I h) fun us s1 ⟨vs, H1, I1, r, z⟩ => ⟨I1.kIn, ?_⟩) he hpl
  have z : sp (vs ++ []) H1 Q E := z
  rw [List.append_nil] at z
  exact rung F hr nr hb I1 r z
/-- C(..) of a class of the text with an __init__ -/
theorem rung_make {pins : List (Addr × Obj)} {σ : St} {H : Hp} {s : Shared} {Q : VK} {us : List Value} {vs : List V} (M : Mk X.K C f) (F : FnG X.prog X.w X.K X.mg X.base k f fd ps sp) (hr : Room (k + 1) X.A) (nr : NoRepr X.A) (hb : Binds X.K fd ps []) (I : Inv X pins σ H s) (r : Vals vs us)
    (h : ∀ x dx, H x = none → H dx = none → dx ≠ x → sp (.ref x :: vs) (upd (upd H dx (.own x)) x (.ins C dx [])) (fun v H2 => v = .non ∧ Q (.ref x) H2) E) :
    wpAny (model X.prog X.w) X.A (call (.ref C) us) (EP X pins σ Q) X.xe s := by
  have z0 := h (s.heap.objs.size + 1) s.heap.objs.size (I.hok.fresh (Nat.le_succ _)) (I.hok.fresh (Nat.le_refl _)) (Nat.ne_of_lt (Nat.lt_succ_self _))
  have I2 := Inv.made (C := C) I
  have r2 : Vals (V.ref (s.heap.objs.size + 1) :: vs) (Value.ref (s.heap.objs.size + 1) :: us) := .cons rfl r
  have hl : (Value.ref (s.heap.objs.size + 1) :: us).length = ps.length := by
    rw [← r2.length]
    exact F.len _ _ _ _ z0
  have hb' := hb _ (Value.ref (s.heap.objs.size + 1) :: us) I2.kIn (by rw [List.append_nil]; exact hl)
  rw [List.append_nil] at hb'
  refine wpAny_call (make_map (f := f) I.kIn M.makes M.init (beq_iff_eq.mp M.fn) (codeAny_mono (F.run _ X.stack _ _ ⟨Value.ref (s.heap.objs.size + 1) :: us, []⟩ (Value.ref (s.heap.objs.size + 1) :: us) _ _ E (hr.make C us [])
    ?nr (I2.env0.make C us []) hb' r2 z0) fun res s' z => ?_))
  case nr =>
    show (X.A.under (.builtin "type.__call__" ⟨.ref C :: us, []⟩)).guards = some []
    have e : (X.A.under (.builtin "type.__call__" ⟨.ref C :: us, []⟩)).guards = X.A.guards := by
      show pushGuards (Code.guards (.builtin "type.__call__" ⟨.ref C :: us, []⟩)) X.A.guards = X.A.guards
      have g : Code.isGuard (.builtin "type.__call__" ⟨.ref C :: us, []⟩) = false := by
        show guardIds.contains "type.__call__" = false
        decide
      unfold Code.guards
      rw [g]
      rfl
    rw [e]
    exact nr
  cases res with
  | error e => exact z.elim
  | ok flow =>
    cases flow with
    | ret u =>
      obtain ⟨v, H', I3, rv, ev, z3⟩ := I2.after z
      subst ev
      exact ⟨rv, ⟨V.ref (s.heap.objs.size + 1), H', I3, rfl, z3⟩⟩
    | next => exact False.elim z
    | brk => exact False.elim z
    | cont => exact False.elim z
theorem pg_make (M : Mk X.K C f) (F : FnG X.prog X.w X.K X.mg X.base k f fd ps sp) (hr : Room (k + 1) X.A) (nr : NoRepr X.A) (hg : Gl X x) (hm : X.mg x = some (.ref C)) (hb : Binds X.K fd ps [])
    (ha : PA X (e :: es) t) (hdb : (x == ("__debug__" : Str)) = false := by decide) (he : starEach (e :: es) X.env = (false, eval e X.env) :: starEach es X.env := by rfl) (hpl : (backTo pos (starEach es X.env)).any (·.1) = false := by rfl) :
    PE X (.Call (.Name x p) (e :: es) [] pos) (tMake C sp [] E t) := by
  refine ⟨fun pins s σ H Q I h => wpAny_Call_Name_kw (ld_glob I hg hm ?_ hdb)⟩
  refine PySem.W.callWith_K (h₀ := X.base) I.ok.mod.kin M.kp (thn (ha.run pos pins s σ H _ I h) fun us s1 ⟨vs, H1, I1, r, z⟩ => ⟨I1.kIn, ?_⟩) he hpl
  have z : ∀ x dx, H1 x = none → H1 dx = none → dx ≠ x → sp (.ref x :: (vs ++ [])) (upd (upd H1 dx (.own x)) x (.ins C dx [])) (fun v H2 => v = .non ∧ Q (.ref x) H2) E := z
  rw [List.append_nil] at z
  exact rung_make M F hr nr hb I1 r z
end
end DL
end
section
set_option maxHeartbeats 2000000
namespace DL
open PySem PySem.Spec L2
open PyProof.Rows hiding St

def wipeD (ρ : En) : List Nat → En
  | [] => ρ
  | v :: vs => (wipeD ρ vs).set v none
theorem wipeD_get (ρ : En) : ∀ (vs : List Nat) (j : Nat), (wipeD ρ vs)[j]? = if j ∈ vs then (if j < ρ.length then some none else none) else ρ[j]?
  | [], j => by simp [wipeD]
  | v :: vs, j => by
    have hl : ∀ vs : List Nat, (wipeD ρ vs).length = ρ.length := fun vs => by
      induction vs with
      | nil => rfl
      | cons v vs ih => unfold wipeD; rw [List.length_set, ih]
    unfold wipeD
    rw [List.getElem?_set, wipeD_get ρ vs j, hl]
    by_cases h : v = j
    · subst h
      simp
    · simp [h, Ne.symm h]
theorem wipeD_length (ρ : En) : ∀ vs : List Nat, (wipeD ρ vs).length = ρ.length
  | [] => rfl
  | v :: vs => by unfold wipeD; rw [List.length_set, wipeD_length ρ vs]
theorem EnvR.wipe {K : PySem.W.Frag} {T : Tab} {γ : List Addr} {F : Hp} {ρ : En} {σ : St} (e : EnvR K T γ F ρ σ) (vs : List Nat) : EnvR K T γ F (wipeD ρ vs) (wipe σ vs) := by
  refine ⟨by rw [wipeD_length, wipe_length, e.len], fun i d h => ?_⟩
  rw [wipeD_get] at h
  by_cases hi : i ∈ vs
  · rw [if_pos hi] at h
    split at h <;> cases h
  · rw [if_neg hi] at h
    obtain ⟨v, h1, h2⟩ := e.get i d h
    exact ⟨v, by rw [wipe_get, if_neg hi]; exact h1, h2⟩
/-- nothing is raised in a comprehension -/
def calmM {α : Type} (f : M α) : M α := fun S => match f S with
  | .ok a S' => .ok a S'
  | .err _ _ => .stuck
  | .stuck => .stuck
theorem calm_of {α : Type} {f : M α} {S S' : Cells} {a : α} (e : f S = .ok a S') : calmM f S = .ok a S' := by
  unfold calmM
  rw [e]
def putC {α : Type} (o : Option En) (k : En → M α) : M α := match o with
  | some ρ => k ρ
  | none => fun _ => .stuck
def compD (p : Pat) (ft : En → M Bool) (fe : En → M D) (ρ : En) : List D → M (List D)
  | [] => fun S => .ok [] S
  | d :: ds => putC (p.put d ρ) fun ρ1 => M.bind (calmM (ft ρ1)) fun b => if b = true then M.bind (calmM (fe ρ1)) fun y => M.bind (compD p ft fe ρ ds) fun l S => .ok (y :: l) S else compD p ft fe ρ ds
structure EvTs (X : Cx) (T : Tab) (EE : XX) (ifs : List Expr) (f : En → M Bool) : Prop where
  pts : PTs X ifs (dT X.K T EE f)
theorem _root_.L2.PTs.dimp {X : Cx} {e : List Expr} {t t' : TT} (h : PTs X e t) (i : ∀ σ H Q, t' σ H Q → t σ H Q) : PTs X e t' := ⟨fun pins s σ H Q I q => h.run pins s σ H Q I (i _ _ _ q)⟩
section
variable {X : Cx} {T : Tab} {EE : XX}
def yesM : M Bool := fun S => .ok true S
theorem ets_nil : EvTs X T EE [] (fun _ => yesM) := ⟨pts_nil.dimp fun σ H Q h => by
  obtain ⟨γ, hid, S, ρ, hold, env, h⟩ := h
  exact h γ H true hold (Ext.refl _ _ _) rfl⟩
theorem ets_one {c : Expr} {f : En → M Bool} (h : EvT X T EE c f) : EvTs X T EE [c] f := ⟨pts_one h.pt⟩
/-- an address is taken out -/
def era (H : Hp) (p : Addr) : Hp := fun b => if b = p then none else H b
theorem era_same {H : Hp} {p : Addr} : era H p p = none := by unfold era; rw [if_pos rfl]
theorem era_ne {H : Hp} {p b : Addr} (h : b ≠ p) : era H p b = H b := by unfold era; rw [if_neg h]
theorem era_upd {H : Hp} {p : Addr} {o : HO} (h : H p = some o) : upd (era H p) p o = H := by
  funext b
  by_cases e : b = p
  · subst e
    rw [upd_same, h]
  · rw [upd_ne e, era_ne e]
theorem out_era {γ : List Addr} {S : Cells} {hid : List Addr} {H : Hp} {p : Addr} (b : Addr) : out γ S hid (era H p) b = out γ S (p :: hid) H b := by
  unfold out era
  by_cases e : b = p
  · simp [e]
  · simp [e]
theorem Hold.unhide {K : PySem.W.Frag} {γ hid : List Addr} {S : Cells} {H : Hp} {p : Addr} (h : Hold K T γ (p :: hid) S H) (hp : p ∉ hid) : Hold K T γ hid S (era H p) := by
  refine ⟨h.len, h.nd, fun n a c e1 e2 => ?_, fun a ha => ?_, fun a ha => h.hidG a (List.mem_cons_of_mem _ ha)⟩
  · obtain ⟨o, ho, r⟩ := h.cell n a c e1 e2
    have ne : a ≠ p := fun z => h.hidG p List.mem_cons_self (z ▸ List.mem_of_getElem? e1)
    exact ⟨o, by rw [era_ne ne]; exact ho, r.mono fun b u hb => by rw [out_era]; exact hb⟩
  · have ne : a ≠ p := fun z => hp (z ▸ ha)
    rw [era_ne ne]
    exact h.hidT a (List.mem_cons_of_mem _ ha)
/-- what has been made is put ahead -/
def preR (acc : List D) : DL.R (List D) → DL.R (List D)
  | .ok l S => .ok (acc ++ l) S
  | .err x S => .err x S
  | .stuck => .stuck
theorem preR_nil (r : DL.R (List D)) : preR [] r = r := by cases r <;> rfl
theorem preR_app (a b : List D) (r : DL.R (List D)) : preR a (preR b r) = preR (a ++ b) r := by
  cases r <;> simp [preR]
theorem bind_pre {f : M (List D)} {y : D} {S : Cells} : (M.bind f fun l S => .ok (y :: l) S) S = preR [y] (f S) := by
  unfold M.bind
  cases f S <;> rfl
/-- THE READING of a comprehension -/
theorem lc_ok {K : PySem.W.Frag} {fi : En → M (List D)} {p : Pat} {ft : En → M Bool} {fe : En → M D} {vs : List Nat} {σ : St} {H : Hp} {Q : VK} (hsl : ∀ i ∈ p.slots, i ∈ vs)
    (h : dL K T EE (fun ρ => M.bind (fi ρ) fun items => compD p ft fe (wipeD ρ vs) items) σ H Q) : tLc (dI K T EE fi) (p.tg K) (dT K T XX0 ft) (dE K T XX0 fe) vs σ H Q := by
  refine (show dG K T EE (repI K T) fi σ H _ from ?_)
  obtain ⟨_, _, _, _, h1, h2, h3⟩ := bindD (rep := repI K T) h
  refine ⟨_, _, _, _, h1, h2, h3.imp fun J H1 ⟨items, γ1, hid, S1, ρ1, q1, q3, q4, q5⟩ D nD => ?_⟩
  obtain ⟨z, q4⟩ := q4
  obtain ⟨hh, sm0⟩ := q1.hide nD (.lst [])
  have nDh : D ∉ hid := (q1.fresh nD).2
  have smI : Same (out γ1 S1 [] H1) (out γ1 S1 [D] (upd H1 D (.lst []))) := fun b o hb => by
    obtain ⟨a1, a2, a3⟩ := out_some.mp hb
    have ne := ne_of_none a3 nD
    exact out_some.mpr ⟨by simp [ne], a2, by rw [upd_ne ne]; exact a3⟩
  have envw := (q3.wipe vs)
  refine ⟨fun i m H' => m = items.length - i ∧ i ≤ items.length ∧ ∃ γ2 S2 accd acc, Hold K T γ2 (D :: hid) S2 H' ∧ (∀ (n : Nat) (a : Addr), γ1[n]? = some a → γ2[n]? = some a) ∧ Same (out γ1 S1 [] H1) (out γ2 S2 [D] H') ∧ Same (out γ1 S1 hid H1) (out γ2 S2 (D :: hid) H') ∧
      H' D = some (.lst acc) ∧ acc.length ≤ i ∧ RpL K T γ2 (out γ2 S2 (D :: hid) H') accd acc ∧ compD p ft fe (wipeD ρ1 vs) items S1 = preR accd (compD p ft fe (wipeD ρ1 vs) (items.drop i) S2),
    ⟨items.length, by simp, Nat.zero_le _, γ1, S1, [], [], hh, fun _ _ z => z, smI, sm0, upd_same, Nat.le_refl _, .nil, by rw [preR_nil, List.drop_zero]⟩, ?_⟩
  rintro i m H' ⟨rfl, hi, γ2, S2, accd, acc, w1, w2, w3, w4, w5, w6, w7, w8⟩
  obtain ⟨g1, g2, g3⟩ := q4 γ2 (D :: hid) S2 H' w2 w4 w1
  by_cases hlt : i < items.length
  · refine .inr ⟨g1 i hlt, fun H3 => i + 1 ≤ items.length ∧ ∃ γ2 S2 accd acc, Hold K T γ2 (D :: hid) S2 H3 ∧ (∀ (n : Nat) (a : Addr), γ1[n]? = some a → γ2[n]? = some a) ∧ Same (out γ1 S1 [] H1) (out γ2 S2 [D] H3) ∧ Same (out γ1 S1 hid H1) (out γ2 S2 (D :: hid) H3) ∧
        H3 D = some (.lst acc) ∧ acc.length ≤ i + 1 ∧ RpL K T γ2 (out γ2 S2 (D :: hid) H3) accd acc ∧ compD p ft fe (wipeD ρ1 vs) items S1 = preR accd (compD p ft fe (wipeD ρ1 vs) (items.drop (i + 1)) S2), fun H3 hN => ⟨items.length - (i + 1), by omega, rfl, hN⟩, fun x H3 y => ?_⟩
    obtain ⟨d, e1, k1, k2, k3⟩ := g3 i x H3 hlt y
    have ed : items.drop i = d :: items.drop (i + 1) := by
      rw [List.drop_eq_getElem_cons hlt]
      have := (List.getElem?_eq_some_iff.mp e1).2
      rw [this]
    have key : compD p ft fe (wipeD ρ1 vs) items S1 = preR accd (putC (p.put d (wipeD ρ1 vs)) (fun ρ1' => M.bind (calmM (ft ρ1')) fun b => if b = true then M.bind (calmM (fe ρ1')) fun y => M.bind (compD p ft fe (wipeD ρ1 vs) (items.drop (i + 1))) fun l S => .ok (y :: l) S else compD p ft fe (wipeD ρ1 vs) (items.drop (i + 1))) S2) := by
      rw [w8, ed]
      rfl
    -- the result is wanted, so no step is stuck
    have q5' : resG K T EE (repL K T) γ1 hid S1 H1 ρ1 σ (compD p ft fe (wipeD ρ1 vs) items S1) (fun vs H' => ∀ p, H' p = none → Q (.ref p) (upd H' p (.lst vs))) := q5
    rw [key] at q5'
    cases ep : p.put d (wipeD ρ1 vs) with
    | none =>
      rw [ep] at q5'
      exact q5'.elim
    | some ρ3 =>
      rw [ep] at q5' key
      have q5' : resG K T EE (repL K T) γ1 hid S1 H1 ρ1 σ (preR accd ((M.bind (calmM (ft ρ3)) fun b => if b = true then M.bind (calmM (fe ρ3)) fun y => M.bind (compD p ft fe (wipeD ρ1 vs) (items.drop (i + 1))) fun l S => .ok (y :: l) S else compD p ft fe (wipeD ρ1 vs) (items.drop (i + 1))) S2)) (fun vs H' => ∀ p, H' p = none → Q (.ref p) (upd H' p (.lst vs))) := q5'
      have key : compD p ft fe (wipeD ρ1 vs) items S1 = preR accd ((M.bind (calmM (ft ρ3)) fun b => if b = true then M.bind (calmM (fe ρ3)) fun y => M.bind (compD p ft fe (wipeD ρ1 vs) (items.drop (i + 1))) fun l S => .ok (y :: l) S else compD p ft fe (wipeD ρ1 vs) (items.drop (i + 1))) S2) := key
      have env2 : EnvR K T γ2 (out γ2 S2 (D :: hid) H3) (wipeD ρ1 vs) (wipe σ vs) := (envw.mono w2 w4).mono k2.pre (k2.sameH _)
      refine put_ok (out_sub _ _ _ _) p d x (wipeD ρ1 vs) ρ3 (wipe σ vs) _ env2 k3 ep fun σ4 n1 n2 => ⟨by rw [n2 vs hsl, wipe_wipe], ?_⟩
      refine (show dG K T XX0 repB ft σ4 H3 _ from ?_)
      refine ⟨γ2, D :: hid, S2, ρ3, k1, n1, ?_⟩
      cases et : ft ρ3 S2 with
      | err x5 S5 =>
        rw [bind_of_stuck (by unfold calmM; rw [et])] at q5'
        exact q5'.elim
      | stuck =>
        rw [bind_of_stuck (by unfold calmM; rw [et])] at q5'
        exact q5'.elim
      | ok b S5 =>
        rw [bind_of_ok (calm_of et)] at q5' key
        intro γ5 H5 b' a1 a2 a3
        have a3' : b = b' := a3
        subst a3'
        have w5' : H5 D = some (.lst acc) := a2.hid k1 List.mem_cons_self (k2.hid w1 List.mem_cons_self w5)
        cases b with
        | false =>
          rw [if_neg Bool.false_ne_true] at q5' key
          rw [if_neg Bool.false_ne_true]
          exact ⟨hlt, γ5, S5, accd, acc, a1, fun n a z => a2.pre n a (k2.pre n a (w2 n a z)), (w3.trans (k2.sameH _)).trans (a2.sameH _), (w4.trans (k2.sameH _)).trans (a2.sameH _), w5', by omega, a2.rpl (k2.rpl w7), key⟩
        | true =>
          rw [if_pos rfl] at q5' key
          rw [if_pos rfl]
          refine (show dG K T XX0 (repE K T) fe σ4 H5 _ from ?_)
          refine ⟨γ5, D :: hid, S5, ρ3, a1, n1.mono a2.pre (a2.sameH _), ?_⟩
          cases ee : fe ρ3 S5 with
          | err x6 S6 =>
            rw [bind_of_stuck (by unfold calmM; rw [ee])] at q5'
            exact q5'.elim
          | stuck =>
            rw [bind_of_stuck (by unfold calmM; rw [ee])] at q5'
            exact q5'.elim
          | ok yd S6 =>
            rw [bind_of_ok (calm_of ee)] at q5' key
            intro γ6 H6 y' c1 c2 c3
            have w6' : H6 D = some (.lst acc) := c2.hid a1 List.mem_cons_self w5'
            obtain ⟨r1, r2⟩ := c1.rewrite (p := D) List.mem_cons_self (.lst (acc ++ [y']))
            have r3 : ∀ hd, D ∈ hd → Same (out γ6 S6 hd H6) (out γ6 S6 hd (upd H6 D (.lst (acc ++ [y'])))) := fun hd hD b o hb => by
              obtain ⟨b1, b2, b3⟩ := out_some.mp hb
              exact out_some.mpr ⟨b1, b2, by rw [upd_ne (fun z : b = D => b1 (by rw [z]; exact hD))]; exact b3⟩
            refine ⟨acc, w6', by omega, hlt, γ6, S6, accd ++ [yd], acc ++ [y'], r1, fun n a z => c2.pre n a (a2.pre n a (k2.pre n a (w2 n a z))), (((w3.trans (k2.sameH _)).trans (a2.sameH _)).trans (c2.sameH _)).trans (r3 _ List.mem_cons_self), (((w4.trans (k2.sameH _)).trans (a2.sameH _)).trans (c2.sameH _)).trans (r3 _ List.mem_cons_self), upd_same, by rw [List.length_append]; simp; omega, ?_, ?_⟩
            · exact RpL.mono (fun _ _ z => z) (r3 _ List.mem_cons_self) _ _ ((c2.rpl (a2.rpl (k2.rpl w7))).append (.one c3))
            · rw [key, ← preR_app]
              rw [bind_pre]
  · have e : i = items.length := by omega
    subst e
    refine .inl ⟨g2, ?_⟩
    rw [List.drop_length] at w8
    have q5' : resG K T EE (repL K T) γ1 hid S1 H1 ρ1 σ (compD p ft fe (wipeD ρ1 vs) items S1) (fun vs H' => ∀ p, H' p = none → Q (.ref p) (upd H' p (.lst vs))) := q5
    rw [w8] at q5'
    have q6 := q5' γ2 (era H' D) acc (w1.unhide nDh) ⟨w2, fun b o hb => by rw [out_era]; exact w3 b o hb⟩ ⟨?_, ?_⟩ D era_same
    · rw [era_upd w5] at q6
      exact q6
    · rw [List.append_nil, w7.length]
      omega
    · rw [List.append_nil]
      exact RpL.mono (fun _ _ z => z) (fun b o hb => by rw [out_era]; exact hb) _ _ w7
theorem evL_lc {elt tg iter : Expr} {ifs : List Expr} {scope : Scope} {own : List (Str × Nat)} {pos : Pos} {fi : En → M (List D)} {p : Pat} {ft : En → M Bool} {fe : En → M D} (hc : X.calm = true) (hN : X.N.Nodup) (hi : EvI X T EE tg iter fi) (ok : BlkOk X.N X.env.scope scope own)
    (hg : ∀ (s : Shared) (H : Hp) (C : Addr) (cl : List (Str × Addr)) (fp : List Addr), EvG (X.blk s H scope (compEnvC scope cl C X.env) fp) tg p) (ht : ∀ (s : Shared) (H : Hp) (C : Addr) (cl : List (Str × Addr)) (fp : List Addr), EvTs (X.blk s H scope (compEnvC scope cl C X.env) fp) T XX0 ifs ft)
    (he : ∀ (s : Shared) (H : Hp) (C : Addr) (cl : List (Str × Addr)) (fp : List Addr), EvE (X.blk s H scope (compEnvC scope cl C X.env) fp) T XX0 elt fe) (hsl : ∀ i ∈ p.slots, i ∈ own.map (·.2) := by decide) (hs : ∀ x, foldedSetIterable iter X.env x = pure x := by intro _; rfl) :
    EvL X T EE (.ListComp elt [⟨tg, iter, ifs, 0⟩] scope pos) (fun ρ => M.bind (fi ρ) fun items => compD p ft fe (wipeD ρ (own.map (·.2))) items) :=
  ⟨(pe_lc hc hN hi.pi ok (fun s H C cl fp => (hg s H C cl fp).pg) (fun s H C cl fp => (ht s H C cl fp).pts) (fun s H C cl fp => (he s H C cl fp).pe) hs).dimp fun σ H Q h => lc_ok hsl h⟩
/-- from a new list to what is done with it -/
theorem frz_read {K : PySem.W.Frag} {fl : En → M (List D)} {σ : St} {H : Hp} {Q : VK} (h : dE K T EE (fun ρ => M.bind (fl ρ) fun l => kon (.lst l)) σ H Q) : dL K T EE fl σ H Q := by
  refine (show dG K T EE (repL K T) fl σ H _ from ?_)
  obtain ⟨_, _, _, _, h1, h2, h3⟩ := bindD (rep := repL K T) h
  refine ⟨_, _, _, _, h1, h2, h3.imp fun vs H1 ⟨l, γ1, hid, S1, ρ, q1, q3, q4, q5⟩ p np => ?_⟩
  obtain ⟨a1, a2, a3⟩ := q1.lay np (.lst vs)
  exact q5 γ1 _ _ a1 a2 (.lst (SqL.of (a3 hid (q1.fresh np).2)) q4.1 (a2.rpl q4.2))
theorem set_read {K : PySem.W.Frag} {f : En → M D} {i : Nat} {σ : St} {H : Hp} {Dn : Ends} (h : dS K T EE (bindS f fun d ρ S => .nx (ρ.set i (some d)) S) Dn σ H) : dE K T EE f σ H fun x H1 => Dn.nx (σ.set i (some x)) H1 := by
  refine (show dG K T EE (repE K T) f σ H _ from ?_)
  obtain ⟨_, _, _, _, h1, h2, h3⟩ := bindSD (rep := repE K T) h
  refine ⟨_, _, _, _, h1, h2, h3.imp fun v H1 ⟨d, γ1, hid, S1, ρ, q1, q3, q4, q5⟩ => ?_⟩
  exact q5 γ1 H1 _ q1 (Ext.refl _ _ _) (q3.set i q4)
section
variable {i : Nat} {y : Str} {py : Pos} {elt tg iter : Expr} {ifs : List Expr} {scope : Scope} {own : List (Str × Nat)} {pos spos : Pos} {fi : En → M (List D)} {p : Pat} {ft : En → M Bool} {fe : En → M D}
/-- name = [..] -/
theorem es_setLc (hc : X.calm = true) (hN : X.N.Nodup) (hy : X.N[i]? = some y) (hyl : X.env.scope.names.lookup y = some .local)
    (hsw : swapsWith (.ListComp elt [⟨tg, iter, ifs, 0⟩] scope pos) (some (.Name y py)) spos.line X.env = pure true) (hi : EvI X T EE tg iter fi) (ok : BlkOk X.N X.env.scope scope own)
    (hg : ∀ (s : Shared) (H : Hp) (C : Addr) (cl : List (Str × Addr)) (fp : List Addr), EvG (X.blk s H scope (compEnvC scope cl C X.env) fp) tg p) (ht : ∀ (s : Shared) (H : Hp) (C : Addr) (cl : List (Str × Addr)) (fp : List Addr), EvTs (X.blk s H scope (compEnvC scope cl C X.env) fp) T XX0 ifs ft)
    (he : ∀ (s : Shared) (H : Hp) (C : Addr) (cl : List (Str × Addr)) (fp : List Addr), EvE (X.blk s H scope (compEnvC scope cl C X.env) fp) T XX0 elt fe) (hsl : ∀ i ∈ p.slots, i ∈ own.map (·.2) := by decide) (hs : ∀ x, foldedSetIterable iter X.env x = pure x := by intro _; rfl) :
    EvS X T EE (.Assign [.Name y py] (.ListComp elt [⟨tg, iter, ifs, 0⟩] scope pos) spos) (bindS (fun ρ => M.bind (M.bind (fi ρ) fun items => compD p ft fe (wipeD ρ (own.map (·.2))) items) fun l => kon (.lst l)) fun d ρ S => .nx (ρ.set i (some d)) S) :=
  ⟨(ps_setLc hc hN hy hyl hsw hi.pi ok (fun s H C cl fp => (hg s H C cl fp).pg) (fun s H C cl fp => (ht s H C cl fp).pts) (fun s H C cl fp => (he s H C cl fp).pe) hs).dimp fun Dn σ H h => lc_ok hsl (frz_read (set_read h))⟩
end
end

mutual
/-- cells from n0 on are read -/
def resv (n0 : Nat) (S : Cells) : D → Option D
  | .ref n => if n < n0 then some (.ref n) else match S[n]? with
    | some ⟨_, .lst l⟩ => some (.lst l)
    | _ => none
  | .lst l => match resvL n0 S l with
    | some l' => some (.lst l')
    | none => none
  | .tup l => match resvL n0 S l with
    | some l' => some (.tup l')
    | none => none
  | .obj c l => match resvL n0 S l with
    | some l' => some (.obj c l')
    | none => none
  | .ext c l => some (.ext c l)
  | .non => some .non
  | .bl b => some (.bl b)
  | .int i => some (.int i)
  | .str x => some (.str x)
def resvL (n0 : Nat) (S : Cells) : List D → Option (List D)
  | [] => some []
  | d :: ds => match resv n0 S d, resvL n0 S ds with
    | some d', some ds' => some (d' :: ds')
    | _, _ => none
end
mutual
theorem resv_flat (n0 : Nat) (S : Cells) : ∀ d : D, d.flat = true → resv n0 S d = some d
  | .non, _ => rfl
  | .bl _, _ => rfl
  | .int _, _ => rfl
  | .str _, _ => rfl
  | .lst l, h => by
    rw [flat_lst] at h
    unfold resv
    rw [resvL_flat n0 S l h]
  | .tup l, h => by
    rw [flat_tup] at h
    unfold resv
    rw [resvL_flat n0 S l h]
  | .obj c l, h => by
    rw [flat_obj] at h
    unfold resv
    rw [resvL_flat n0 S l h]
  | .ext _ _, _ => rfl
  | .ref n, h => by simp at h
theorem resvL_flat (n0 : Nat) (S : Cells) : ∀ l : List D, flatL l = true → resvL n0 S l = some l
  | [], _ => rfl
  | d :: ds, h => by
    rw [flatL_cons, Bool.and_eq_true] at h
    unfold resvL
    rw [resv_flat n0 S d h.1, resvL_flat n0 S ds h.2]
end
mutual
theorem resvL_len (n0 : Nat) (S : Cells) : ∀ (ds es : List D), resvL n0 S ds = some es → es.length = ds.length
  | [], es, h => by
    unfold resvL at h
    cases h
    rfl
  | d :: ds, es, h => by
    unfold resvL at h
    cases h1 : resv n0 S d with
    | none => rw [h1] at h; cases h
    | some d' =>
      cases h2 : resvL n0 S ds with
      | none => rw [h1, h2] at h; cases h
      | some ds' =>
        rw [h1, h2] at h
        cases h
        simp [resvL_len n0 S ds ds' h2]
end
section
variable {K : PySem.W.Frag} {T : Tab} {γ hid : List Addr} {S : Cells} {H : Hp} {n0 : Nat}
mutual
theorem resv_ok (h : Hold K T γ hid S H) : ∀ (d d' : D) (v : V), Rp K T γ (out γ S hid H) d v → resv n0 S d = some d' → Rp K T (γ.take n0) (out (γ.take n0) (S.take n0) hid H) d' v
  | .non, _, _, r, e => by unfold resv at e; cases e; cases r; exact .non
  | .bl _, _, _, r, e => by unfold resv at e; cases e; cases r; exact .bl _
  | .int _, _, _, r, e => by unfold resv at e; cases e; cases r; exact .int _
  | .str _, _, _, r, e => by unfold resv at e; cases e; cases r with | str x z => exact .str _ z
  | .lst l, _, _, r, e => by
    unfold resv at e
    cases q : resvL n0 S l with
    | none => rw [q] at e; cases e
    | some l' =>
      rw [q] at e
      cases e
      cases r with
      | lst a z b => exact .lst (((h.cut n0).2 hid).seq a) (by rw [resvL_len n0 S l l' q]; exact z) (resvL_ok h l l' _ b q)
  | .tup l, _, _, r, e => by
    unfold resv at e
    cases q : resvL n0 S l with
    | none => rw [q] at e; cases e
    | some l' =>
      rw [q] at e
      cases e
      cases r with
      | tup a z b => exact .tup (same_seqT ((h.cut n0).2 hid) a) (by rw [resvL_len n0 S l l' q]; exact z) (resvL_ok h l l' _ b q)
  | .obj c l, _, _, r, e => by
    unfold resv at e
    cases q : resvL n0 S l with
    | none => rw [q] at e; cases e
    | some l' =>
      rw [q] at e
      cases e
      cases r with
      | obj a z b => exact .obj ((h.cut n0).2 hid _ _ a) z (resvL_ok h l l' _ b q)
  | .ext c l, _, _, r, e => by
    unfold resv at e
    cases e
    cases r with
    | exc a => exact .exc ((h.cut n0).2 hid _ _ a)
    | dc0 a => exact .dc0 ((h.cut n0).2 hid _ _ a)
  | .ref n, d', _, r, e => by
    unfold resv at e
    cases r with
    | ref a =>
      by_cases hn : n < n0
      · rw [if_pos hn] at e
        cases e
        exact .ref (by rw [List.getElem?_take, if_pos hn]; exact a)
      · rw [if_neg hn] at e
        split at e
        · rename_i q
          cases e
          obtain ⟨vs, h1, z, h2⟩ := h.list a q
          refine .lst (SqL.of (out_some.mpr ⟨fun z => h.hidG _ z (List.mem_of_getElem? a), ?_, h1⟩)) z (h2.nil_any ((h.cut n0).2 hid))
          refine live_no fun hm => ?_
          obtain ⟨m, hm⟩ := List.mem_iff_getElem?.mp hm
          obtain ⟨h3, h4⟩ := getElem?_take_some hm
          exact hn ((nd_ix h.nd a h3) ▸ h4)
        · cases e
theorem resvL_ok (h : Hold K T γ hid S H) : ∀ (ds ds' : List D) (vs : List V), RpL K T γ (out γ S hid H) ds vs → resvL n0 S ds = some ds' → RpL K T (γ.take n0) (out (γ.take n0) (S.take n0) hid H) ds' vs
  | [], _, _, r, e => by unfold resvL at e; cases e; cases r; exact .nil
  | d :: ds, es, _, r, e => by
    unfold resvL at e
    cases h1 : resv n0 S d with
    | none => rw [h1] at e; cases e
    | some d' =>
      cases h2 : resvL n0 S ds with
      | none => rw [h1, h2] at e; cases e
      | some ds' =>
        rw [h1, h2] at e
        cases e
        cases r with
        | cons r1 r2 => exact .cons (resv_ok h d d' _ r1 h1) (resvL_ok h ds ds' _ r2 h2)
end
/-- behind a def's body: its own cells are forgotten -/
theorem Ext.cut {γ γ1 hid : List Addr} {S S1 : Cells} {H H1 : Hp} (h0 : Hold K T γ hid S H) (h : Hold K T γ1 hid S1 H1) (e : Ext γ S H γ1 S1 H1) : γ1.take S.length = γ ∧ Ext γ S H (γ1.take S.length) (S1.take S.length) H1 := by
  have hg : γ1.take S.length = γ := by
    apply List.ext_getElem?
    intro n
    rw [List.getElem?_take]
    split
    · rename_i hn
      rw [← h0.len] at hn
      have := e.pre n _ (List.getElem?_eq_getElem hn)
      rw [this, List.getElem?_eq_getElem hn]
    · rename_i hn
      rw [List.getElem?_eq_none_iff.mpr (by rw [h0.len]; omega)]
  refine ⟨hg, ⟨fun n a z => by rw [hg]; exact z, e.same.trans ((h.cut S.length).2 [])⟩⟩
end
def retD (n0 : Nat) (S : Cells) : Option D → DL.R D
  | some d => .ok d (S.take n0)
  | none => .stuck
def exitD (n0 : Nat) : Out → DL.R D
  | .rt d S => retD n0 S (resv n0 S d)
  | .nx _ S => .ok .non (S.take n0)
  | .er x _ S => .err x (S.take n0)
  | _ => .stuck
/-- where a new list is handed back -/
def exitL (n0 : Nat) : Out → DL.R (List D)
  | .rt (.ref n) S => if n0 ≤ n then match S[n]? with
    | some ⟨true, .lst l⟩ => .ok l (S.take n0)
    | _ => .stuck else .stuck
  | .er x _ S => .err x (S.take n0)
  | _ => .stuck
def startD (N : Nat) (ds : List D) : En := ds.map some ++ List.replicate (N - ds.length) none
/-- a def by its body: N names -/
def bodyD (N : Nat) (B : SM) : List D → M D := fun ds S => exitD S.length (B (startD N ds) S)
def bodyL (N : Nat) (B : SM) : List D → M (List D) := fun ds S => exitL S.length (B (startD N ds) S)
theorem start_ok {K : PySem.W.Frag} {T : Tab} {γ : List Addr} {F : Hp} {N : List Str} {ds : List D} {vs : List V} (r : RpL K T γ F ds vs) : EnvR K T γ F (startD N.length ds) (L2.start N vs) := by
  have hl := r.length
  refine ⟨by simp [startD, L2.start, hl], fun i d h => ?_⟩
  unfold startD at h
  by_cases hi : i < ds.length
  · rw [List.getElem?_append_left (by simpa using hi), List.getElem?_map] at h
    cases q : ds[i]? with
    | none => rw [q] at h; cases h
    | some d' =>
      rw [q] at h
      cases h
      obtain ⟨v, h1, h2⟩ := r.get q
      refine ⟨v, ?_, h2⟩
      unfold L2.start
      rw [List.getElem?_append_left (by simp; omega), List.getElem?_map, h1]
      rfl
  · rw [List.getElem?_append_right (by simp; omega), List.getElem?_replicate] at h
    split at h <;> cases h
/-- the promise: no exception leaves -/
def spD (K : PySem.W.Frag) (T : Tab) (n : Nat) (g : List D → M D) : Sp := fun vs H Q _ => ∃ γ hid S ds, Hold K T γ hid S H ∧ RpL K T γ (out γ S hid H) ds vs ∧ ds.length = n ∧ ∃ d S', g ds S = .ok d S' ∧ okV K T γ hid S H d S' Q
def spL (K : PySem.W.Frag) (T : Tab) (n : Nat) (g : List D → M (List D)) : Sp := fun vs H Q _ => ∃ γ hid S ds, Hold K T γ hid S H ∧ RpL K T γ (out γ S hid H) ds vs ∧ ds.length = n ∧ ∃ d S', g ds S = .ok d S' ∧ okL K T γ hid S H d S' Q
section
variable {P : Program} {w : World} {K : PySem.W.Frag} {mg : Str → Option Value} {base : Heap} {T : Tab}
theorem fn_D {x qual : Str} {params : Arguments} {body : List Stmt} {scope : Scope} {dvs : List V} {kws : List (Str × V)} {f : Addr} {fd : FuncData} {N ps : List Str} {k : Nat} {B : SM} (F : FunD K x qual params body scope dvs kws f fd) (S : FnScope N ps scope)
    (hb : ∀ (cdv : Value) (A : Around) (outer : List Env) (s : Shared) (H : Hp) (E : XK), Room k (A.deeper (envOfC qual scope s.heap.objs.size f cdv)) → NoRepr (A.deeper (envOfC qual scope s.heap.objs.size f cdv)) →
      EvSs (cxOf CX0 P w K mg base N qual scope f cdv A outer s H E).nox T XX0 body B) : FnG P w K mg base (k + 1) f fd ps (spD K T ps.length (bodyD N.length B)) := by
  refine fng_ok F S (fun vs H Q E h => ?_) (fun cdv A outer s H vs Q E hr nr h => ?_)
  · obtain ⟨γ, hid, S, ds, h1, h2, h3, _⟩ := h
    rw [← h2.length, h3]
  · obtain ⟨γ, hid, S, ds, h1, h2, h3, d, S', e, q⟩ := h
    refine ⟨_, (hb cdv A outer s H E hr nr).ps, γ, hid, S, startD N.length ds, h1, start_ok h2, ?_⟩
    unfold bodyD at e
    cases eb : B (startD N.length ds) S with
    | nx ρ S1 =>
      rw [eb] at e
      cases e
      intro γ' H' σ' a1 a2 a3
      obtain ⟨c1, c2⟩ := Ext.cut h1 a1 a2
      exact q _ H' .non (a1.cut _).1 c2 .non
    | rt d1 S1 =>
      rw [eb] at e
      have e : retD S.length S1 (resv S.length S1 d1) = .ok d S' := e
      cases er : resv S.length S1 d1 with
      | none => rw [er] at e; cases e
      | some d2 =>
        rw [er] at e
        cases e
        intro γ' H' v a1 a2 a3
        obtain ⟨c1, c2⟩ := Ext.cut h1 a1 a2
        exact q _ H' v (a1.cut _).1 c2 (resv_ok a1 _ _ _ a3 er)
    | bk ρ S1 => rw [eb] at e; cases e
    | ct ρ S1 => rw [eb] at e; cases e
    | er x ρ S1 => rw [eb] at e; cases e
    | stuck => rw [eb] at e; cases e
theorem fn_L {x qual : Str} {params : Arguments} {body : List Stmt} {scope : Scope} {dvs : List V} {kws : List (Str × V)} {f : Addr} {fd : FuncData} {N ps : List Str} {k : Nat} {B : SM} (F : FunD K x qual params body scope dvs kws f fd) (S : FnScope N ps scope)
    (hb : ∀ (cdv : Value) (A : Around) (outer : List Env) (s : Shared) (H : Hp) (E : XK), Room k (A.deeper (envOfC qual scope s.heap.objs.size f cdv)) → NoRepr (A.deeper (envOfC qual scope s.heap.objs.size f cdv)) →
      EvSs (cxOf CX0 P w K mg base N qual scope f cdv A outer s H E).nox T XX0 body B) : FnG P w K mg base (k + 1) f fd ps (spL K T ps.length (bodyL N.length B)) := by
  refine fng_ok F S (fun vs H Q E h => ?_) (fun cdv A outer s H vs Q E hr nr h => ?_)
  · obtain ⟨γ, hid, S, ds, h1, h2, h3, _⟩ := h
    rw [← h2.length, h3]
  · obtain ⟨γ, hid, S, ds, h1, h2, h3, l, S', e, q⟩ := h
    refine ⟨_, (hb cdv A outer s H E hr nr).ps, γ, hid, S, startD N.length ds, h1, start_ok h2, ?_⟩
    unfold bodyL at e
    cases eb : B (startD N.length ds) S with
    | nx ρ S1 => rw [eb] at e; cases e
    | rt d1 S1 =>
      rw [eb] at e
      cases d1 with
      | ref n =>
        have e : (if S.length ≤ n then (match S1[n]? with
          | some ⟨true, .lst l⟩ => .ok l (S1.take S.length)
          | _ => .stuck : DL.R (List D)) else .stuck) = .ok l S' := e
        split at e
        · rename_i hn
          split at e
          · rename_i en
            cases e
            intro γ' H' v a1 a2 a3
            cases a3 with
            | ref ga =>
              rename_i a
              obtain ⟨vs1, g1, z, g2⟩ := a1.list ga en
              obtain ⟨c1, c2⟩ := Ext.cut h1 a1 a2
              have lv : liveAt γ' S1 a = true := liveAt_iff.mpr ⟨n, _, ga, en, rfl⟩
              have na : a ∉ γ'.take S.length := fun hm => by
                obtain ⟨m, hm⟩ := List.mem_iff_getElem?.mp hm
                obtain ⟨h3, h4⟩ := getElem?_take_some hm
                have := nd_ix a1.nd ga h3
                omega
              have smE : ∀ hd, Same (out γ' S1 hd H') (out (γ'.take S.length) (S1.take S.length) hd (era H' a)) := fun hd b o hb => by
                obtain ⟨b1, b2, b3⟩ := out_some.mp hb
                have ne : b ≠ a := fun z => by rw [z, lv] at b2; cases b2
                obtain ⟨b4, b5, b6⟩ := out_some.mp ((a1.cut S.length).2 hd b o hb)
                exact out_some.mpr ⟨b4, b5, by rw [era_ne ne]; exact b6⟩
              have hold : Hold K T (γ'.take S.length) hid (S1.take S.length) (era H' a) := by
                refine ⟨(a1.cut S.length).1.len, (a1.cut S.length).1.nd, fun m b c e1 e2 => ?_, fun b hb => ?_, (a1.cut S.length).1.hidG⟩
                · obtain ⟨o, ho, r⟩ := a1.cell m b c (getElem?_take_some e1).1 (getElem?_take_some e2).1
                  exact ⟨o, by rw [era_ne (fun z : b = a => na (by rw [← z]; exact List.mem_of_getElem? e1))]; exact ho, r.mono (smE hid)⟩
                · rw [era_ne (fun z : b = a => a1.hidG b hb (by rw [z]; exact List.mem_of_getElem? ga))]
                  exact a1.hidT b hb
              have q1 := q (γ'.take S.length) (era H' a) vs1 hold ⟨c2.pre, a2.same.trans (smE [])⟩ z (g2.nil_any (smE hid)) a era_same
              rw [era_upd g1] at q1
              exact q1
          · cases e
        · cases e
      | _ => cases e
    | bk ρ S1 => rw [eb] at e; cases e
    | ct ρ S1 => rw [eb] at e; cases e
    | er x ρ S1 => rw [eb] at e; cases e
    | stuck => rw [eb] at e; cases e
end
section
variable {X : Cx} {T : Tab} {EE : XX} {k : Nat} {f : Addr} {fd : FuncData} {ps : List Str} {x : Str} {p pos : Pos} {e : Expr} {es : List Expr} {fs : En → M (List D)} {n : Nat}
theorem call_read {K : PySem.W.Frag} {g : List D → M D} {σ : St} {H : Hp} {Q : VK} (hn : ∀ ds S, ds.length ≠ n → g ds S = .stuck) (h : dE K T EE (fun ρ => M.bind (fs ρ) fun ds => calmM (g ds)) σ H Q) : tCall (spD K T n g) [] E0 (dA K T EE fs) σ H Q := by
  refine (show dG K T EE (repA K T) fs σ H _ from ?_)
  obtain ⟨_, _, _, _, h1, h2, h3⟩ := bindD (rep := repA K T) h
  refine ⟨_, _, _, _, h1, h2, h3.imp fun vs H1 ⟨ds, γ1, hid, S1, ρ, q1, q3, q4, q5⟩ => ?_⟩
  rw [List.append_nil]
  cases eg : g ds S1 with
  | ok d S2 =>
    have q5 : resG K T EE (repE K T) γ1 hid S1 H1 ρ σ (calmM (g ds) S1) Q := q5
    rw [calm_of eg] at q5
    refine ⟨γ1, hid, S1, ds, q1, q4, ?_, d, S2, eg, q5⟩
    refine Decidable.byContradiction fun hne => ?_
    rw [hn ds S1 hne] at eg
    cases eg
  | err y S2 =>
    have q5 : resG K T EE (repE K T) γ1 hid S1 H1 ρ σ (calmM (g ds) S1) Q := q5
    unfold calmM at q5
    rw [eg] at q5
    exact q5.elim
  | stuck =>
    have q5 : resG K T EE (repE K T) γ1 hid S1 H1 ρ σ (calmM (g ds) S1) Q := q5
    unfold calmM at q5
    rw [eg] at q5
    exact q5.elim
theorem callL_read {K : PySem.W.Frag} {g : List D → M (List D)} {σ : St} {H : Hp} {Q : VK} (hn : ∀ ds S, ds.length ≠ n → g ds S = .stuck) (h : dL K T EE (fun ρ => M.bind (fs ρ) fun ds => calmM (g ds)) σ H Q) : tCall (spL K T n g) [] E0 (dA K T EE fs) σ H Q := by
  refine (show dG K T EE (repA K T) fs σ H _ from ?_)
  obtain ⟨_, _, _, _, h1, h2, h3⟩ := bindD (rep := repA K T) h
  refine ⟨_, _, _, _, h1, h2, h3.imp fun vs H1 ⟨ds, γ1, hid, S1, ρ, q1, q3, q4, q5⟩ => ?_⟩
  rw [List.append_nil]
  cases eg : g ds S1 with
  | ok d S2 =>
    have q5 : resG K T EE (repL K T) γ1 hid S1 H1 ρ σ (calmM (g ds) S1) (fun vs H' => ∀ p, H' p = none → Q (.ref p) (upd H' p (.lst vs))) := q5
    rw [calm_of eg] at q5
    refine ⟨γ1, hid, S1, ds, q1, q4, ?_, d, S2, eg, fun γ' H' vs a1 a2 z a3 => q5 γ' H' vs a1 a2 ⟨z, a3⟩⟩
    refine Decidable.byContradiction fun hne => ?_
    rw [hn ds S1 hne] at eg
    cases eg
  | err y S2 =>
    have q5 : resG K T EE (repL K T) γ1 hid S1 H1 ρ σ (calmM (g ds) S1) (fun vs H' => ∀ p, H' p = none → Q (.ref p) (upd H' p (.lst vs))) := q5
    unfold calmM at q5
    rw [eg] at q5
    exact q5.elim
  | stuck =>
    have q5 : resG K T EE (repL K T) γ1 hid S1 H1 ρ σ (calmM (g ds) S1) (fun vs H' => ∀ p, H' p = none → Q (.ref p) (upd H' p (.lst vs))) := q5
    unfold calmM at q5
    rw [eg] at q5
    exact q5.elim
/-- with so many arguments -/
def arity {α : Type} (n : Nat) (g : List D → M α) : List D → M α := fun ds S => if ds.length = n then g ds S else .stuck
theorem spD_arity {K : PySem.W.Frag} {g : List D → M D} {vs : List V} {H : Hp} {Q : VK} {E : XK} (h : spD K T n (arity n g) vs H Q E) : spD K T n g vs H Q E := by
  obtain ⟨γ, hid, S, ds, h1, h2, h3, d, S', e, q⟩ := h
  unfold arity at e
  rw [if_pos h3] at e
  exact ⟨γ, hid, S, ds, h1, h2, h3, d, S', e, q⟩
theorem spL_arity {K : PySem.W.Frag} {g : List D → M (List D)} {vs : List V} {H : Hp} {Q : VK} {E : XK} (h : spL K T n (arity n g) vs H Q E) : spL K T n g vs H Q E := by
  obtain ⟨γ, hid, S, ds, h1, h2, h3, d, S', e, q⟩ := h
  unfold arity at e
  rw [if_pos h3] at e
  exact ⟨γ, hid, S, ds, h1, h2, h3, d, S', e, q⟩
/-- f(..), f a def of the text -/
theorem ev_call {g : List D → M D} (F : FnG X.prog X.w X.K X.mg X.base k f fd ps (spD X.K T n g)) (hr : Room k X.A) (nr : NoRepr X.A) (hg : Gl X x) (hm : X.mg x = some (.ref f)) (hk : PySem.W.keepIn X.K (.ref f) = true) (hb : Binds X.K fd ps [])
    (ha : EvA X T EE (e :: es) fs) (hdb : (x == ("__debug__" : Str)) = false := by decide) (he : starEach (e :: es) X.env = (false, eval e X.env) :: starEach es X.env := by rfl) (hpl : (backTo pos (starEach es X.env)).any (·.1) = false := by rfl) :
    EvE X T EE (.Call (.Name x p) (e :: es) [] pos) (fun ρ => M.bind (fs ρ) fun ds => calmM (arity n g ds)) :=
  ⟨(pg_call (E := E0) (F.imp fun vs H Q E h => spD_arity h) hr nr hg hm hk hb ha.pa hdb he hpl).dimp fun σ H Q h => call_read (fun ds S hne => by unfold arity; rw [if_neg hne]) h⟩
theorem evL_call {g : List D → M (List D)} (F : FnG X.prog X.w X.K X.mg X.base k f fd ps (spL X.K T n g)) (hr : Room k X.A) (nr : NoRepr X.A) (hg : Gl X x) (hm : X.mg x = some (.ref f)) (hk : PySem.W.keepIn X.K (.ref f) = true) (hb : Binds X.K fd ps [])
    (ha : EvA X T EE (e :: es) fs) (hdb : (x == ("__debug__" : Str)) = false := by decide) (he : starEach (e :: es) X.env = (false, eval e X.env) :: starEach es X.env := by rfl) (hpl : (backTo pos (starEach es X.env)).any (·.1) = false := by rfl) :
    EvL X T EE (.Call (.Name x p) (e :: es) [] pos) (fun ρ => M.bind (fs ρ) fun ds => calmM (arity n g ds)) :=
  ⟨(pg_call (E := E0) (F.imp fun vs H Q E h => spL_arity h) hr nr hg hm hk hb ha.pa hdb he hpl).dimp fun σ H Q h => callL_read (fun ds S hne => by unfold arity; rw [if_neg hne]) h⟩
end
end DL
end
section
set_option maxHeartbeats 2000000
namespace DL
open PySem PySem.Spec L2
open PyProof.Rows hiding St

def seqL (S : Cells) : D → Option (List D)
  | .lst l => some l
  | .ref n => match S[n]? with
    | some ⟨_, .lst l⟩ => some l
    | _ => none
  | _ => none
def seqT : D → Option (List D)
  | .tup l => some l
  | _ => none
section
variable {K : PySem.W.Frag} {T : Tab} {γ hid : List Addr} {S : Cells} {H : Hp}
theorem seqL_ok (h : Hold K T γ hid S H) {d : D} {v : V} {l : List D} (r : Rp K T γ (out γ S hid H) d v) (e : seqL S d = some l) : ∃ a vs, v = .ref a ∧ SqL K H a vs ∧ l.length ≤ sizeLine ∧ RpL K T γ (out γ S hid H) l vs := by
  cases r with
  | lst a z b =>
    cases e
    exact ⟨_, _, rfl, (out_sub _ _ _ _).seq a, z, b⟩
  | ref a =>
    rename_i n _
    have e : (match S[n]? with
      | some ⟨_, .lst l⟩ => some l
      | _ => none) = some l := e
    split at e
    · rename_i q
      cases e
      obtain ⟨vs, h1, z, h2⟩ := h.list a q
      exact ⟨_, vs, rfl, SqL.of h1, z, h2.nil_any (Same.refl _)⟩
    · cases e
  | _ => cases e
theorem seqT_ok {d : D} {v : V} {l : List D} (r : Rp K T γ (out γ S hid H) d v) (e : seqT d = some l) : ∃ a vs, v = .ref a ∧ SqT K H a vs ∧ l.length ≤ sizeLine ∧ RpL K T γ (out γ S hid H) l vs := by
  cases r with
  | tup a z b =>
    cases e
    exact ⟨_, _, rfl, same_seqT (out_sub _ _ _ _) a, z, b⟩
  | _ => cases e
theorem okV.same {d : D} {v : V} {Q : VK} (q : okV K T γ hid S H d S Q) (h : Hold K T γ hid S H) (r : Rp K T γ (out γ S hid H) d v) : Q v H := q γ H v h (Ext.refl _ _ _) r
/-- a new tuple, a new list -/
theorem okV.tup {l : List D} {vs : List V} {Q : VK} (q : okV K T γ hid S H (.tup l) S Q) (h : Hold K T γ hid S H) (z : l.length ≤ sizeLine) (r : RpL K T γ (out γ S hid H) l vs) : ∀ p, H p = none → Q (.ref p) (upd H p (.tup vs)) := fun p np => by
  obtain ⟨a1, a2, a3⟩ := h.lay np (.tup vs)
  exact q γ _ _ a1 a2 (.tup (SqT.of (a3 hid (h.fresh np).2)) z (a2.rpl r))
theorem okV.lst {l : List D} {vs : List V} {Q : VK} (q : okV K T γ hid S H (.lst l) S Q) (h : Hold K T γ hid S H) (z : l.length ≤ sizeLine) (r : RpL K T γ (out γ S hid H) l vs) : ∀ p, H p = none → Q (.ref p) (upd H p (.lst vs)) := fun p np => by
  obtain ⟨a1, a2, a3⟩ := h.lay np (.lst vs)
  exact q γ _ _ a1 a2 (.lst (SqL.of (a3 hid (h.fresh np).2)) z (a2.rpl r))
theorem okL.lst {l : List D} {vs : List V} {Q : VK} (q : okL K T γ hid S H l S Q) (h : Hold K T γ hid S H) (z : l.length ≤ sizeLine) (r : RpL K T γ (out γ S hid H) l vs) : ∀ p, H p = none → Q (.ref p) (upd H p (.lst vs)) := fun p np =>
  q γ H vs h (Ext.refl _ _ _) z r p np
end

section
variable {X : Cx} {T : Tab}
/-- list + list, wherever they stand -/
theorem op_catS : OpR X (binaryOp .Add) (fun x y H Q => ∃ l b xs zs, x = .ref l ∧ y = .ref b ∧ SqL X.K H l xs ∧ SqL X.K H b zs ∧ xs.length + zs.length ≤ sizeLine ∧ ∀ p, H p = none → Q (.ref p) (upd H p (.lst (xs ++ zs)))) := by
  intro pins s σ H x y v u Q I rx ry h
  obtain ⟨l, b, xs, zs, rfl, rfl, h1, h2, hz, q⟩ := h
  cases rx
  cases ry
  obtain ⟨i1, r1, ⟨⟨c1, d1, t1, s1⟩, n1, e1, k1, _, m1⟩, _⟩ := I.list h1
  obtain ⟨i2, r2, ⟨⟨c2, d2, t2, s2⟩, n2, e2, k2, _, m2⟩, _⟩ := I.list h2
  simp only at k1 m1 k2 m2
  subst k1 m1 k2 m2
  have hl1 := r1.length
  have hl2 := r2.length
  refine concat_meets ⟨_, e1, rfl⟩ ⟨_, e2, rfl⟩ noFill_list_add seq_list_add PySem.F.slot_list_add PySem.F.entry_list_add (PySem.F.args_list_add_2 _ _) (list_addW l b i1.toArray i2.toArray n1 n2 d1 d2 s1 s2 (by rw [List.size_toArray, List.size_toArray]; omega)) ⟨e1, e2, ?_⟩
  have ea : i1.toArray ++ i2.toArray = (i1 ++ i2).toArray := by simp
  rw [ea]
  exact ⟨.ref _, _, I.lnew (t' := s.toks) (r1.append r2) (by rw [List.length_append]; omega), rfl, q _ I.fresh⟩
def catL (d1 d2 : D) (S : Cells) : Option (List D) := match seqL S d1, seqL S d2 with
  | some a, some b => if a.length + b.length ≤ sizeLine then some (a ++ b) else none
  | _, _ => none
theorem catL_some {d1 d2 : D} {S : Cells} {l : List D} (e : catL d1 d2 S = some l) : ∃ a b, seqL S d1 = some a ∧ seqL S d2 = some b ∧ a.length + b.length ≤ sizeLine ∧ l = a ++ b := by
  unfold catL at e
  split at e
  · rename_i a b h1 h2
    split at e
    · cases e
      exact ⟨a, b, h1, h2, by assumption, rfl⟩
    · cases e
  · cases e
theorem op_catL : OpR X (binaryOp .Add) (rOL X.K T catL) := op_catS.dimp fun x y H Q h => by
  obtain ⟨γ, hid, S, d1, d2, l, hold, r1, r2, e, q⟩ := h
  obtain ⟨a, b, h1, h2, z, rfl⟩ := catL_some e
  obtain ⟨p1, vs1, rfl, s1, z1, g1⟩ := seqL_ok hold r1 h1
  obtain ⟨p2, vs2, rfl, s2, z2, g2⟩ := seqL_ok hold r2 h2
  exact ⟨_, _, _, _, rfl, rfl, s1, s2, by rw [← g1.length, ← g2.length]; exact z, q.lst hold (by rw [List.length_append]; exact z) (g1.append g2)⟩
def dAdd (d1 d2 : D) (S : Cells) : Option D := match d1, d2 with
  | .int i, .int j => some (.int (i + j))
  | .str x, .str y => if x.length + y.length ≤ sizeLine then some (.str (x ++ y)) else none
  | .tup a, .tup b => if a.length + b.length ≤ sizeLine then some (.tup (a ++ b)) else none
  | d1, d2 => (catL d1 d2 S).map .lst
theorem str_len_append (x y : Str) : (x ++ y).length = x.length + y.length := by
  show (x.cps ++ y.cps).size = x.cps.size + y.cps.size
  rw [Array.size_append]
theorem op_dAdd : OpR X (binaryOp .Add) (rO X.K T dAdd) := by
  intro pins s σ H x y v u Q I rx ry h
  obtain ⟨γ, hid, S, d1, d2, d, hold, r1, r2, e, q⟩ := h
  have cat : (catL d1 d2 S).map .lst = some d → wpAny (model X.prog X.w) X.A (binaryOp .Add v u) (EP X pins σ Q) X.xe s := fun e => by
    cases ec : catL d1 d2 S with
    | none => rw [ec] at e; cases e
    | some l =>
      rw [ec] at e
      cases e
      refine op_catS pins s σ H x y v u Q I rx ry ?_
      obtain ⟨a, b, h1, h2, z, rfl⟩ := catL_some ec
      obtain ⟨p1, vs1, rfl, s1, z1, g1⟩ := seqL_ok hold r1 h1
      obtain ⟨p2, vs2, rfl, s2, z2, g2⟩ := seqL_ok hold r2 h2
      exact ⟨_, _, _, _, rfl, rfl, s1, s2, by rw [← g1.length, ← g2.length]; exact z, q.lst hold (by rw [List.length_append]; exact z) (g1.append g2)⟩
  unfold dAdd at e
  split at e
  · cases r1
    cases r2
    cases e
    exact op_add pins s σ H _ _ v u Q I rx ry ⟨_, _, rfl, rfl, q.same hold (.int _)⟩
  · cases r1
    cases r2
    split at e
    · cases e
      rename_i z
      exact op_add_str pins s σ H _ _ v u Q I rx ry ⟨_, _, rfl, rfl, z, q.same hold (.str _ (by rw [str_len_append]; exact z))⟩
    · cases e
  · split at e
    · cases e
      rename_i a b z
      obtain ⟨p1, vs1, rfl, s1, z1, g1⟩ := seqT_ok r1 rfl
      obtain ⟨p2, vs2, rfl, s2, z2, g2⟩ := seqT_ok r2 rfl
      refine op_catA pins s σ H _ _ v u Q I rx ry ⟨_, _, _, _, rfl, rfl, s1, s2, by rw [← g1.length, ← g2.length]; exact z, fun e0 => ?_, fun _ e0 => ?_, fun _ _ => q.tup hold (by rw [List.length_append]; exact z) (g1.append g2)⟩
      · subst e0
        cases g1
        exact q.same hold r2
      · subst e0
        cases g2
        rw [List.append_nil] at q
        exact q.same hold r1
    · cases e
  · exact cat e
def dSub (d1 d2 : D) (_ : Cells) : Option D := match d1, d2 with
  | .int i, .int j => some (.int (i - j))
  | _, _ => none
theorem op_dSub : OpR X (binaryOp .Sub) (rO X.K T dSub) := by
  intro pins s σ H x y v u Q I rx ry h
  obtain ⟨γ, hid, S, d1, d2, d, hold, r1, r2, e, q⟩ := h
  unfold dSub at e
  split at e
  · cases r1
    cases r2
    cases e
    exact op_sub pins s σ H _ _ v u Q I rx ry ⟨_, _, rfl, rfl, q.same hold (.int _)⟩
  · cases e
def okMul (i j : Int) : Bool := decide (i.natAbs.log2 + j.natAbs.log2 < 1000000)
def dMul (d1 d2 : D) (_ : Cells) : Option D := match d1, d2 with
  | .int i, .int j => if okMul i j = true then some (.int (i * j)) else none
  | _, _ => none
theorem op_dMul : OpR X (binaryOp .Mult) (rO X.K T dMul) := by
  intro pins s σ H x y v u Q I rx ry h
  obtain ⟨γ, hid, S, d1, d2, d, hold, r1, r2, e, q⟩ := h
  unfold dMul at e
  split at e
  · rename_i i j
    cases r1
    cases r2
    split at e
    · cases e
      rename_i z
      have z' : i.natAbs.log2 + j.natAbs.log2 < 1000000 := of_decide_eq_true z
      exact op_mulW pins s σ H _ _ v u Q I rx ry ⟨_, _, rfl, rfl, z', q.same hold (.int _)⟩
    · cases e
  · cases e
def dDiv (d1 d2 : D) (_ : Cells) : Option D := match d1, d2 with
  | .int i, .int j => if 0 < j ∧ j.natAbs.log2 < 9000 then some (.int (i / j)) else none
  | _, _ => none
theorem op_dDiv : OpR X (binaryOp .FloorDiv) (rO X.K T dDiv) := by
  intro pins s σ H x y v u Q I rx ry h
  obtain ⟨γ, hid, S, d1, d2, d, hold, r1, r2, e, q⟩ := h
  unfold dDiv at e
  split at e
  · cases r1
    cases r2
    split at e
    · cases e
      rename_i z
      exact op_fdivW pins s σ H _ _ v u Q I rx ry ⟨_, _, rfl, rfl, z, q.same hold (.int _)⟩
    · cases e
  · cases e
def dMod (d1 d2 : D) (_ : Cells) : Option D := match d1, d2 with
  | .int i, .int j => if 0 < j then some (.int (i % j)) else none
  | _, _ => none
theorem op_dMod : OpR X (binaryOp .Mod) (rO X.K T dMod) := by
  intro pins s σ H x y v u Q I rx ry h
  obtain ⟨γ, hid, S, d1, d2, d, hold, r1, r2, e, q⟩ := h
  unfold dMod at e
  split at e
  · cases r1
    cases r2
    split at e
    · cases e
      rename_i z
      exact op_mod pins s σ H _ _ v u Q I rx ry ⟨_, _, rfl, rfl, z, q.same hold (.int _)⟩
    · cases e
  · cases e
def dPow (d1 d2 : D) (_ : Cells) : Option D := match d1, d2 with
  | .int i, .int j => if 0 ≤ j ∧ (Builtin.Int.intBits i : Int) * j ≤ 2 ^ 27 then some (.int (i ^ j.toNat)) else none
  | _, _ => none
theorem op_dPow : OpR X (binaryOp .Pow) (rO X.K T dPow) := by
  intro pins s σ H x y v u Q I rx ry h
  obtain ⟨γ, hid, S, d1, d2, d, hold, r1, r2, e, q⟩ := h
  unfold dPow at e
  split at e
  · cases r1
    cases r2
    split at e
    · cases e
      rename_i z
      obtain ⟨t, rfl⟩ := rx
      obtain ⟨t', rfl⟩ := ry
      exact PyProof.Rows.pow_int z.1 z.2 ⟨.int _, H, I.tok _, ⟨_, rfl⟩, q.same hold (.int _)⟩
    · cases e
  · cases e
def dNeg (d : D) (_ : Cells) : Option D := match d with
  | .int i => some (.int (-i))
  | _ => none
theorem un_dNeg : UnR X (unaryOp .USub) (rU X.K T dNeg) := by
  intro pins s σ H x v Q I rx h
  obtain ⟨γ, hid, S, d1, d, hold, r1, e, q⟩ := h
  unfold dNeg at e
  split at e
  · cases r1
    cases e
    exact un_neg pins s σ H _ v Q I rx ⟨_, rfl, q.same hold (.int _)⟩
  · cases e

mutual
def toPy : D → Option PyData
  | .non => some .none
  | .bl b => some (.bool b)
  | .int i => some (.int i)
  | .str x => some (.str x)
  | .lst l => match toPyL l with
    | some m => some (.list m)
    | none => none
  | .tup l => match toPyL l with
    | some m => some (.tuple m)
    | none => none
  | _ => none
def toPyL : List D → Option (List PyData)
  | [] => some []
  | d :: ds => match toPy d, toPyL ds with
    | some e, some es => some (e :: es)
    | _, _ => none
end
mutual
theorem toPy_ok {K : PySem.W.Frag} {γ : List Addr} {F H : Hp} (hs : Same F H) : ∀ (d : D) (v : V) (p : PyData), Rp K T γ F d v → toPy d = some p → Dp K H v p
  | .non, _, _, r, e => by unfold toPy at e; cases e; cases r; exact .non
  | .bl _, _, _, r, e => by unfold toPy at e; cases e; cases r; exact .bl _
  | .int _, _, _, r, e => by unfold toPy at e; cases e; cases r; exact .int _
  | .str _, _, _, r, e => by unfold toPy at e; cases e; cases r; exact .str _
  | .lst l, _, _, r, e => by
    unfold toPy at e
    cases q : toPyL l with
    | none => rw [q] at e; cases e
    | some m =>
      rw [q] at e
      cases e
      cases r with
      | lst a z b => exact .lst (hs.seq a) (toPyL_ok hs l _ _ b q)
  | .tup l, _, _, r, e => by
    unfold toPy at e
    cases q : toPyL l with
    | none => rw [q] at e; cases e
    | some m =>
      rw [q] at e
      cases e
      cases r with
      | tup a z b => exact .tup (same_seqT hs a) (toPyL_ok hs l _ _ b q)
  | .ref _, _, _, _, e => by unfold toPy at e; cases e
  | .obj _ _, _, _, _, e => by unfold toPy at e; cases e
  | .ext _ _, _, _, _, e => by unfold toPy at e; cases e
theorem toPyL_ok {K : PySem.W.Frag} {γ : List Addr} {F H : Hp} (hs : Same F H) : ∀ (ds : List D) (vs : List V) (ps : List PyData), RpL K T γ F ds vs → toPyL ds = some ps → DpAll K H vs ps
  | [], _, _, r, e => by unfold toPyL at e; cases e; cases r; exact .nil
  | d :: ds, _, _, r, e => by
    unfold toPyL at e
    cases h1 : toPy d with
    | none => rw [h1] at e; cases e
    | some p =>
      cases h2 : toPyL ds with
      | none => rw [h1, h2] at e; cases e
      | some ps =>
        rw [h1, h2] at e
        cases e
        cases r with
        | cons a b => exact .cons (toPy_ok hs d _ _ a h1) (toPyL_ok hs ds _ _ b h2)
end
/-- data as a whole, cells read -/
def vw (S : Cells) (d : D) : Option PyData := (resv 0 S d).bind toPy
theorem vw_ok {K : PySem.W.Frag} {γ hid : List Addr} {S : Cells} {H : Hp} {d : D} {v : V} {p : PyData} (h : Hold K T γ hid S H) (r : Rp K T γ (out γ S hid H) d v) (e : vw S d = some p) : Dp K H v p := by
  unfold vw at e
  cases q : resv 0 S d with
  | none => rw [q] at e; cases e
  | some d' =>
    rw [q] at e
    exact toPy_ok (out_sub _ _ _ _) d' v p (resv_ok h d d' v r q) e
def eqP (d1 d2 : D) (S : Cells) : Option Bool := match vw S d1, vw S d2 with
  | some p, some q => if SeqAt.shaped p = true ∧ SeqAt.shaped q = true then some (PyData.eqv p q) else none
  | _, _ => none
theorem eqP_some {d1 d2 : D} {S : Cells} {b : Bool} (e : eqP d1 d2 S = some b) : ∃ p q, vw S d1 = some p ∧ vw S d2 = some q ∧ SeqAt.shaped p = true ∧ SeqAt.shaped q = true ∧ b = PyData.eqv p q := by
  unfold eqP at e
  split at e
  · rename_i p q h1 h2
    split at e
    · rename_i z
      cases e
      exact ⟨p, q, h1, h2, z.1, z.2, rfl⟩
    · cases e
  · cases e
def dEq (d1 d2 : D) (S : Cells) : Option D := match d1, d2 with
  | .str x, .str y => some (.bl (decide (x = y)))
  | d1, d2 => (eqP d1 d2 S).map .bl
def dNe (d1 d2 : D) (S : Cells) : Option D := match d1, d2 with
  | .str x, .str y => some (.bl (!decide (x = y)))
  | d1, d2 => (eqP d1 d2 S).map fun b => .bl (!b)
theorem decS {x y : Str} : decide (V.str x = V.str y) = decide (x = y) := by
  by_cases h : x = y
  · rw [decide_eq_true h, decide_eq_true (by rw [h])]
  · rw [decide_eq_false h, decide_eq_false (fun z => h (V.str.inj z))]
theorem op_dEq (hu : X.A.units + 64 < cLine) : OpR X (compareOp .Eq) (rO X.K T dEq) := by
  intro pins s σ H x y v u Q I rx ry h
  obtain ⟨γ, hid, S, d1, d2, d, hold, r1, r2, e, q⟩ := h
  unfold dEq at e
  split at e
  · cases r1
    cases r2
    cases e
    exact op_eq pins s σ H _ _ v u Q I rx ry ⟨rfl, by rw [decS]; exact q.same hold (.bl _)⟩
  · refine op_eqD hu pins s σ H x y v u Q I rx ry ?_
    cases eb : eqP d1 d2 S with
    | none => rw [eb] at e; cases e
    | some b =>
      rw [eb] at e
      cases e
      obtain ⟨p1, p2, h1, h2, h3, h4, rfl⟩ := eqP_some eb
      exact ⟨p1, p2, vw_ok hold r1 h1, vw_ok hold r2 h2, h3, h4, q.same hold (.bl _)⟩
theorem op_dNe (hu : X.A.units + 64 < cLine) : OpR X (compareOp .NotEq) (rO X.K T dNe) := by
  intro pins s σ H x y v u Q I rx ry h
  obtain ⟨γ, hid, S, d1, d2, d, hold, r1, r2, e, q⟩ := h
  unfold dNe at e
  split at e
  · cases r1
    cases r2
    cases e
    exact op_ne pins s σ H _ _ v u Q I rx ry ⟨rfl, by rw [decS]; exact q.same hold (.bl _)⟩
  · refine op_neD hu pins s σ H x y v u Q I rx ry ?_
    cases eb : eqP d1 d2 S with
    | none => rw [eb] at e; cases e
    | some b =>
      rw [eb] at e
      cases e
      obtain ⟨p1, p2, h1, h2, h3, h4, rfl⟩ := eqP_some eb
      exact ⟨p1, p2, vw_ok hold r1 h1, vw_ok hold r2 h2, h3, h4, q.same hold (.bl _)⟩
def cmpI (p : Int → Int → Bool) (d1 d2 : D) (_ : Cells) : Option D := match d1, d2 with
  | .int i, .int j => some (.bl (p i j))
  | _, _ => none
theorem op_cmpI {o : CmpOp} {p : Int → Int → Bool} (ho : OpR X (compareOp o) (rI0 fun i j => .bl (p i j))) : OpR X (compareOp o) (rO X.K T (cmpI p)) := ho.dimp fun x y H Q h => by
  obtain ⟨γ, hid, S, d1, d2, d, hold, r1, r2, e, q⟩ := h
  unfold cmpI at e
  split at e
  · cases r1
    cases r2
    cases e
    exact ⟨_, _, rfl, rfl, q.same hold (.bl _)⟩
  · cases e
abbrev dLt := cmpI fun i j => decide (i < j)
abbrev dLe := cmpI fun i j => decide (i ≤ j)
abbrev dGt := cmpI fun i j => decide (j < i)
abbrev dGe := cmpI fun i j => decide (j ≤ i)
theorem op_dLt : OpR X (compareOp .Lt) (rO X.K T dLt) := op_cmpI op_lt
theorem op_dLe : OpR X (compareOp .LtE) (rO X.K T dLe) := op_cmpI op_le
theorem op_dGt : OpR X (compareOp .Gt) (rO X.K T dGt) := op_cmpI op_gt
def isNon : D → Bool
  | .non => true
  | _ => false
def dIs (d1 d2 : D) (_ : Cells) : Option D := match d2 with
  | .non => some (.bl (isNon d1))
  | _ => none
def dIsNot (d1 d2 : D) (_ : Cells) : Option D := match d2 with
  | .non => some (.bl (!isNon d1))
  | _ => none
theorem isNon_rep {K : PySem.W.Frag} {γ : List Addr} {F : Hp} {d : D} {v : V} (r : Rp K T γ F d v) : decide (v = .non) = isNon d := by
  cases r <;> simp [isNon]
theorem op_dIs : OpR X (compareOp .Is) (rO X.K T dIs) := op_isN.dimp fun x y H Q h => by
  obtain ⟨γ, hid, S, d1, d2, d, hold, r1, r2, e, q⟩ := h
  unfold dIs at e
  split at e
  · cases r2
    cases e
    exact ⟨rfl, by rw [isNon_rep r1]; exact q.same hold (.bl _)⟩
  · cases e
end

section
variable {X : Cx} {T : Tab} {EE : XX} {a b e : Expr} {fa fb f : En → M D} {pos : Pos}
def ixD (d i : D) (S : Cells) : Option D := match i with
  | .int k => match d with
    | .str x => (atI x.cps.toList k).map fun c => .str ⟨#[c]⟩
    | .tup l => atI l k
    | d => (seqL S d).bind fun l => atI l k
  | _ => none
theorem atI_rep {K : PySem.W.Frag} {γ : List Addr} {F : Hp} {l : List D} {vs : List V} {k : Int} {d : D} (r : RpL K T γ F l vs) (e : atI l k = some d) : ∃ v, atI vs k = some v ∧ Rp K T γ F d v := by
  unfold atI at e ⊢
  rw [← r.length]
  cases q : ixN l.length k with
  | none => rw [q] at e; cases e
  | some j =>
    rw [q] at e
    exact r.get e
theorem ix_dIx : IxR X (rO X.K T ixD) := by
  intro value slice pins s σ H x y v u Q I rx ry h hp
  obtain ⟨γ, hid, S, d1, d2, d, hold, r1, r2, e, q⟩ := h
  unfold ixD at e
  split at e
  · rename_i k
    cases r2
    split at e
    · rename_i z
      cases r1 with
      | str _ hz =>
        cases ea : atI z.cps.toList k with
        | none => rw [ea] at e; cases e
        | some c =>
          rw [ea] at e
          cases e
          exact ix_seq value slice pins s σ H _ _ v u Q I rx ry (.inr (.inr ⟨_, _, c, rfl, rfl, hz, ea, q.same hold (.str _ one_sign)⟩)) hp
    · obtain ⟨p1, vs1, rfl, s1, z1, g1⟩ := seqT_ok r1 rfl
      obtain ⟨v1, e1, r3⟩ := atI_rep g1 e
      exact ix_seq value slice pins s σ H _ _ v u Q I rx ry (.inr (.inl ⟨_, _, _, v1, rfl, rfl, s1, e1, q.same hold r3⟩)) hp
    · cases el : seqL S d1 with
      | none => rw [el] at e; cases e
      | some l =>
        rw [el] at e
        obtain ⟨p1, vs1, rfl, s1, z1, g1⟩ := seqL_ok hold r1 el
        obtain ⟨v1, e1, r3⟩ := atI_rep g1 e
        exact ix_seq value slice pins s σ H _ _ v u Q I rx ry (.inl ⟨_, _, _, v1, rfl, rfl, s1, e1, q.same hold r3⟩) hp
  · cases e
theorem ev_ix (ha : EvE X T EE a fa) (hb : EvE X T EE b fb) (hs : PlainIx b) : EvE X T EE (.Subscript a b pos) (fun ρ => M.bind (fa ρ) fun x => M.bind (fb ρ) fun y => M.opt (ixD x y)) :=
  ⟨(pe_ix ix_dIx ha.pe hb.pe hs).dimp fun σ H Q h => two h⟩
def partD : D → Option (Option Int)
  | .int i => some (some i)
  | _ => none
structure EvO (X : Cx) (T : Tab) (EE : XX) (e : Option Expr) (f : En → M (Option Int)) : Prop where
  po : PO X e (dG X.K T EE (fun _ _ a b => a = b) f)
theorem _root_.L2.PO.dimp {X : Cx} {e : Option Expr} {t t' : TO} (h : PO X e t) (i : ∀ σ H Q, t' σ H Q → t σ H Q) : PO X e t' := ⟨fun pins s σ H Q I q => h.run pins s σ H Q I (i _ _ _ q)⟩
theorem eo_none : EvO X T EE none (fun _ S => .ok none S) := ⟨po_none.dimp fun σ H Q h => by
  obtain ⟨γ, hid, S, ρ, hold, env, h⟩ := h
  exact h γ H none hold (Ext.refl _ _ _) rfl⟩
theorem eo_some (h : EvE X T EE e f) : EvO X T EE (some e) (fun ρ => M.bind (f ρ) fun d => M.opt fun _ => partD d) := by
  refine ⟨(po_some h.pe).dimp fun σ H Q h => ?_⟩
  refine (show dG X.K T EE (repE X.K T) f σ H _ from ?_)
  obtain ⟨_, _, _, _, h1, h2, h3⟩ := bindD (rep := repE X.K T) h
  refine ⟨_, _, _, _, h1, h2, h3.imp fun x H1 ⟨d1, γ1, hid, S1, ρ, q1, q3, q4, q5⟩ => ?_⟩
  obtain ⟨o, e, w5⟩ := opt_ok q5
  unfold partD at e
  split at e
  · cases e
    cases q4
    exact ⟨_, rfl, w5 γ1 H1 _ q1 (Ext.refl _ _ _) rfl⟩
  · cases e
def cutD (l : List D) (lo hi : Option Int) : List D := (l.drop (HT.sIx l.length 0 lo)).take (HT.sIx l.length l.length hi - HT.sIx l.length 0 lo)
theorem cutD_rep {K : PySem.W.Frag} {γ : List Addr} {F : Hp} {l : List D} {vs : List V} (r : RpL K T γ F l vs) (lo hi : Option Int) : RpL K T γ F (cutD l lo hi) (cutV vs lo hi) := by
  unfold cutD cutV
  rw [r.length]
  exact (r.drop _).take _
theorem cutD_len (l : List D) (lo hi : Option Int) : (cutD l lo hi).length ≤ l.length := by
  unfold cutD
  rw [List.length_take, List.length_drop]
  omega
def slL (d : D) (lo hi : Option Int) (S : Cells) : Option (List D) := (seqL S d).map fun l => cutD l lo hi
def slD (d : D) (lo hi : Option Int) (S : Cells) : Option D := match d with
  | .tup l => some (.tup (cutD l lo hi))
  | .str x => some (.str (cutS x lo hi))
  | d => (slL d lo hi S).map .lst
theorem cutD_whole {l : List D} {lo hi : Option Int} (h : HT.sIx l.length 0 lo = 0 ∧ HT.sIx l.length l.length hi = l.length) : cutD l lo hi = l := by
  unfold cutD
  rw [h.1, h.2, List.drop_zero, Nat.sub_zero, List.take_length]
theorem cutS_len (x : Str) (lo hi : Option Int) : (cutS x lo hi).length ≤ x.length := by
  unfold cutS
  show (Array.size _) ≤ x.cps.size
  rw [List.size_toArray, List.length_take, List.length_drop, Array.length_toList]
  omega
theorem sl_dSl : SlR X (fun x lo hi H Q => ∃ γ hid S d d', Hold X.K T γ hid S H ∧ Rp X.K T γ (out γ S hid H) d x ∧ slD d lo hi S = some d' ∧ okV X.K T γ hid S H d' S Q) := by
  intro pins s σ H x v vl vu lo hi sl Q I rx hs pl pu h
  obtain ⟨γ, hid, S, d, d', hold, r1, e, q⟩ := h
  unfold slD at e
  split at e
  · cases e
    obtain ⟨p1, vs1, rfl, s1, z1, g1⟩ := seqT_ok r1 rfl
    refine sl_tupA pins s σ H _ v vl vu lo hi sl Q I rx hs pl pu ⟨_, _, rfl, s1, fun w => ?_, fun _ => q.tup hold (Nat.le_trans (cutD_len _ _ _) z1) (cutD_rep g1 lo hi)⟩
    rw [← g1.length] at w
    rw [cutD_whole w] at q
    exact q.same hold r1
  · cases e
    cases r1 with
    | str z hz => exact sl_str pins s σ H _ v vl vu lo hi sl Q I rx hs pl pu ⟨_, rfl, hz, q.same hold (.str _ (Nat.le_trans (cutS_len _ _ _) hz))⟩
  · cases el : slL d lo hi S with
    | none => rw [el] at e; cases e
    | some l =>
      rw [el] at e
      cases e
      unfold slL at el
      cases eq : seqL S d with
      | none => rw [eq] at el; cases el
      | some l0 =>
        rw [eq] at el
        cases el
        obtain ⟨p1, vs1, rfl, s1, z1, g1⟩ := seqL_ok hold r1 eq
        exact sl_list pins s σ H _ v vl vu lo hi sl Q I rx hs pl pu ⟨_, _, rfl, s1, q.lst hold (Nat.le_trans (cutD_len _ _ _) z1) (cutD_rep g1 lo hi)⟩
variable {lo hi : Option Expr} {fl fh : En → M (Option Int)} {p2 : Pos}
theorem ev_slice (he : EvE X T EE e f) (hl : EvO X T EE lo fl) (hh : EvO X T EE hi fh) : EvE X T EE (.Subscript e (.Slice lo hi none p2) pos) (fun ρ => M.bind (f ρ) fun d => M.bind (fl ρ) fun i => M.bind (fh ρ) fun j => M.opt (slD d i j)) := by
  refine ⟨(pe_slice (sl_dSl (T := T)) he.pe hl.po hh.po).dimp fun σ H Q h => ?_⟩
  refine (show dG X.K T EE (repE X.K T) f σ H _ from ?_)
  obtain ⟨γ, hid, S, ρ, hold, env, h⟩ := h
  obtain ⟨_, _, _, _, h1, h2, h3⟩ := bindR (rep := repE X.K T) hold env h
  refine ⟨_, _, _, _, h1, h2, h3.imp fun x H1 ⟨d1, γ1, S1, q1, q2, q3, q4, q5⟩ => ?_⟩
  obtain ⟨_, _, _, _, h1, h2, h3⟩ := bindR (rep := fun _ _ a b => a = b) q1 q3 q5
  refine ⟨_, _, _, _, h1, h2, h3.imp fun i H2 ⟨i', γ2, S2, w1, w2, w3, w4, w5⟩ => ?_⟩
  cases w4
  obtain ⟨_, _, _, _, h1, h2, h3⟩ := bindR (rep := fun _ _ a b => a = b) w1 w3 w5
  refine ⟨_, _, _, _, h1, h2, h3.imp fun j H3 ⟨j', γ3, S3, u1, u2, u3, u4, u5⟩ => ?_⟩
  cases u4
  obtain ⟨d', e, w5⟩ := opt_ok u5
  exact ⟨γ3, hid, S3, d1, d', u1, u2.rp (w2.rp q4), e, w5⟩
end
end DL
end
section
set_option maxHeartbeats 4000000
namespace DL
open PySem PySem.Spec L2
open PyProof.Rows hiding St
/-- a call by its data function -/
def rC (K : PySem.W.Frag) (T : Tab) (op : List D → Cells → Option D) : List V → Hp → VK → Prop := fun vs H Q => ∃ γ hid S ds d, Hold K T γ hid S H ∧ RpL K T γ (out γ S hid H) ds vs ∧ op ds S = some d ∧ okV K T γ hid S H d S Q
def rCL (K : PySem.W.Frag) (T : Tab) (op : List D → Cells → Option (List D)) : List V → Hp → VK → Prop := fun vs H Q => ∃ γ hid S ds l, Hold K T γ hid S H ∧ RpL K T γ (out γ S hid H) ds vs ∧ op ds S = some l ∧ okL K T γ hid S H l S Q
section
variable {X : Cx} {T : Tab} {EE : XX} {x : Str} {p pos : Pos} {e : Expr} {es : List Expr} {fs : En → M (List D)} {id tn : String}
theorem cb_read {K : PySem.W.Frag} {op : List D → Cells → Option D} {σ : St} {H : Hp} {Q : VK} (h : dE K T EE (fun ρ => M.bind (fs ρ) fun ds => M.opt (op ds)) σ H Q) : tCB (rC K T op) (dA K T EE fs) σ H Q := by
  refine (show dG K T EE (repA K T) fs σ H _ from ?_)
  obtain ⟨_, _, _, _, h1, h2, h3⟩ := bindD (rep := repA K T) h
  refine ⟨_, _, _, _, h1, h2, h3.imp fun vs H1 ⟨ds, γ1, hid, S1, ρ, q1, q3, q4, q5⟩ => ?_⟩
  obtain ⟨d, e, w5⟩ := opt_ok q5
  exact ⟨γ1, hid, S1, ds, d, q1, q4, e, w5⟩
theorem cbL_read {K : PySem.W.Frag} {op : List D → Cells → Option (List D)} {σ : St} {H : Hp} {Q : VK} (h : dL K T EE (fun ρ => M.bind (fs ρ) fun ds => M.opt (op ds)) σ H Q) : tCB (rCL K T op) (dA K T EE fs) σ H Q := by
  refine (show dG K T EE (repA K T) fs σ H _ from ?_)
  obtain ⟨_, _, _, _, h1, h2, h3⟩ := bindD (rep := repA K T) h
  refine ⟨_, _, _, _, h1, h2, h3.imp fun vs H1 ⟨ds, γ1, hid, S1, ρ, q1, q3, q4, q5⟩ => ?_⟩
  obtain ⟨d, e, w5⟩ := opt_ok q5
  exact ⟨γ1, hid, S1, ds, d, q1, q4, e, fun γ' H' vs a1 a2 z a3 => w5 γ' H' vs a1 a2 ⟨z, a3⟩⟩
theorem ev_cb {op : List D → Cells → Option D} (hc : CallR X (.builtin id) (rC X.K T op)) (hg : Gl X x) (hm : X.mg x = none) (hv : bootBuiltins x = some (.builtin id)) (ha : EvA X T EE (e :: es) fs) (hn : x ≠ "__name__" := by decide) (hdb : (x == ("__debug__" : Str)) = false := by decide)
    (he : starEach (e :: es) X.env = (false, eval e X.env) :: starEach es X.env := by rfl) (hpl : (backTo pos (starEach es X.env)).any (·.1) = false := by rfl) : EvE X T EE (.Call (.Name x p) (e :: es) [] pos) (fun ρ => M.bind (fs ρ) fun ds => M.opt (op ds)) :=
  ⟨(pe_callB hc hg hm hv ha.pa hn hdb he hpl).dimp fun σ H Q h => cb_read h⟩
theorem evL_cb {op : List D → Cells → Option (List D)} (hc : CallR X (.builtin id) (rCL X.K T op)) (hg : Gl X x) (hm : X.mg x = none) (hv : bootBuiltins x = some (.builtin id)) (ha : EvA X T EE (e :: es) fs) (hn : x ≠ "__name__" := by decide) (hdb : (x == ("__debug__" : Str)) = false := by decide)
    (he : starEach (e :: es) X.env = (false, eval e X.env) :: starEach es X.env := by rfl) (hpl : (backTo pos (starEach es X.env)).any (·.1) = false := by rfl) : EvL X T EE (.Call (.Name x p) (e :: es) [] pos) (fun ρ => M.bind (fs ρ) fun ds => M.opt (op ds)) :=
  ⟨(pe_callB hc hg hm hv ha.pa hn hdb he hpl).dimp fun σ H Q h => cbL_read h⟩
theorem ev_ct {op : List D → Cells → Option D} (hc : CallR X (.type tn) (rC X.K T op)) (hg : Gl X x) (hm : X.mg x = none) (hv : bootBuiltins x = some (.type tn)) (ha : EvA X T EE (e :: es) fs) (hn : x ≠ "__name__" := by decide) (hdb : (x == ("__debug__" : Str)) = false := by decide)
    (he : starEach (e :: es) X.env = (false, eval e X.env) :: starEach es X.env := by rfl) (hpl : (backTo pos (starEach es X.env)).any (·.1) = false := by rfl) : EvE X T EE (.Call (.Name x p) (e :: es) [] pos) (fun ρ => M.bind (fs ρ) fun ds => M.opt (op ds)) :=
  ⟨(pe_callTy hc hg hm hv ha.pa hn hdb he hpl).dimp fun σ H Q h => cb_read h⟩
theorem evL_ct {op : List D → Cells → Option (List D)} (hc : CallR X (.type tn) (rCL X.K T op)) (hg : Gl X x) (hm : X.mg x = none) (hv : bootBuiltins x = some (.type tn)) (ha : EvA X T EE (e :: es) fs) (hn : x ≠ "__name__" := by decide) (hdb : (x == ("__debug__" : Str)) = false := by decide)
    (he : starEach (e :: es) X.env = (false, eval e X.env) :: starEach es X.env := by rfl) (hpl : (backTo pos (starEach es X.env)).any (·.1) = false := by rfl) : EvL X T EE (.Call (.Name x p) (e :: es) [] pos) (fun ρ => M.bind (fs ρ) fun ds => M.opt (op ds)) :=
  ⟨(pe_callTy hc hg hm hv ha.pa hn hdb he hpl).dimp fun σ H Q h => cbL_read h⟩
def dAbs (ds : List D) (_ : Cells) : Option D := match ds with
  | [.int i] => some (.int (if i < 0 then -i else i))
  | _ => none
theorem rep1 {K : PySem.W.Frag} {γ : List Addr} {F : Hp} {d : D} {vs : List V} (r : RpL K T γ F [d] vs) : ∃ v, vs = [v] ∧ Rp K T γ F d v := by
  cases r with
  | cons a b =>
    cases b
    exact ⟨_, rfl, a⟩
theorem rep2 {K : PySem.W.Frag} {γ : List Addr} {F : Hp} {d e : D} {vs : List V} (r : RpL K T γ F [d, e] vs) : ∃ v u, vs = [v, u] ∧ Rp K T γ F d v ∧ Rp K T γ F e u := by
  cases r with
  | cons a b =>
    obtain ⟨u, rfl, c⟩ := rep1 b
    exact ⟨_, u, rfl, a, c⟩
def dMax2 (ds : List D) (_ : Cells) : Option D := match ds with
  | [.int i, .int j] => some (.int (if j > i then j else i))
  | _ => none
def dMin2 (ds : List D) (_ : Cells) : Option D := match ds with
  | [.int i, .int j] => some (.int (if j < i then j else i))
  | _ => none
theorem cb_max2 (hc : X.calm = true) : CallR X (.builtin "max") (rC X.K T dMax2) := (call_max2 hc).dimp fun vs H Q h => by
  obtain ⟨γ, hid, S, ds, d, hold, r, e, q⟩ := h
  unfold dMax2 at e
  split at e
  · cases e
    obtain ⟨v, u, rfl, r1, r2⟩ := rep2 r
    cases r1
    cases r2
    exact ⟨_, _, rfl, q.same hold (.int _)⟩
  · cases e
theorem cb_min2 (hc : X.calm = true) : CallR X (.builtin "min") (rC X.K T dMin2) := (call_min2 hc).dimp fun vs H Q h => by
  obtain ⟨γ, hid, S, ds, d, hold, r, e, q⟩ := h
  unfold dMin2 at e
  split at e
  · cases e
    obtain ⟨v, u, rfl, r1, r2⟩ := rep2 r
    cases r1
    cases r2
    exact ⟨_, _, rfl, q.same hold (.int _)⟩
  · cases e
def dInt (ds : List D) (_ : Cells) : Option D := match ds with
  | [.int i] => some (.int i)
  | [.bl b] => some (.int (if b then 1 else 0))
  | _ => none
theorem ct_int : CallR X (.type "int") (rC X.K T dInt) := call_int1.dimp fun vs H Q h => by
  obtain ⟨γ, hid, S, ds, d, hold, r, e, q⟩ := h
  unfold dInt at e
  split at e
  · cases e
    obtain ⟨v, rfl, r1⟩ := rep1 r
    cases r1
    exact .inl ⟨_, rfl, q.same hold (.int _)⟩
  · cases e
    obtain ⟨v, rfl, r1⟩ := rep1 r
    cases r1
    exact .inr ⟨_, rfl, q.same hold (.int _)⟩
  · cases e
def dLen (ds : List D) (S : Cells) : Option D := match ds with
  | [.str x] => some (.int x.length)
  | [.tup l] => some (.int l.length)
  | [d] => (seqL S d).map fun l => .int l.length
  | _ => none
theorem cb_len : CallR X (.builtin "len") (rC X.K T dLen) := call_len.dimp fun vs H Q h => by
  obtain ⟨γ, hid, S, ds, d, hold, r, e, q⟩ := h
  unfold dLen at e
  split at e
  · cases e
    obtain ⟨v, rfl, r1⟩ := rep1 r
    cases r1 with
    | str x z => exact ⟨_, _, rfl, ⟨z, rfl⟩, q.same hold (.int _)⟩
  · cases e
    obtain ⟨v, rfl, r1⟩ := rep1 r
    cases r1 with
    | tup a z b => exact ⟨_, _, rfl, .inr ⟨_, same_seqT (out_sub _ _ _ _) a, b.length⟩, q.same hold (.int _)⟩
  · rename_i d0 _ _
    obtain ⟨v, rfl, r1⟩ := rep1 r
    cases eq : seqL S d0 with
    | none => rw [eq] at e; cases e
    | some l =>
      rw [eq] at e
      cases e
      obtain ⟨a, ws, rfl, s1, z, g⟩ := seqL_ok hold r1 eq
      exact ⟨_, _, rfl, .inl ⟨_, s1, g.length⟩, q.same hold (.int _)⟩
  · cases e
def listOf (ds : List D) (S : Cells) : Option (List D) := match ds with
  | [d] => seqL S d
  | _ => none
def dSum (ds : List D) (S : Cells) : Option D := ((listOf ds S).bind ints?).map fun ns => .int ns.sum
theorem intsOf_ok {K : PySem.W.Frag} {γ hid : List Addr} {S : Cells} {H : Hp} {ds : List D} {vs : List V} {ns : List Int} (hold : Hold K T γ hid S H) (r : RpL K T γ (out γ S hid H) ds vs) (e : (listOf ds S).bind ints? = some ns) :
    ∃ a, vs = [.ref a] ∧ SqL K H a (ns.map V.int) ∧ ns.length ≤ sizeLine := by
  cases el : listOf ds S with
  | none => rw [el] at e; cases e
  | some l =>
    rw [el] at e
    unfold listOf at el
    split at el
    · obtain ⟨v, rfl, r1⟩ := rep1 r
      obtain ⟨a, ws, rfl, s1, z, g⟩ := seqL_ok hold r1 el
      obtain ⟨h1, h2⟩ := ints?_rep g e
      subst h1
      subst h2
      exact ⟨a, rfl, s1, by rw [List.length_map] at z; exact z⟩
    · cases el
theorem cb_sum (hc : X.calm = true) : CallR X (.builtin "sum") (rC X.K T dSum) := (cr_sum hc).dimp fun vs H Q h => by
  obtain ⟨γ, hid, S, ds, d, hold, r, e, q⟩ := h
  unfold dSum at e
  cases ei : (listOf ds S).bind ints? with
  | none => rw [ei] at e; cases e
  | some ns =>
    rw [ei] at e
    cases e
    obtain ⟨a, rfl, s1, _⟩ := intsOf_ok hold r ei
    exact ⟨a, ns, rfl, s1, q.same hold (.int _)⟩
theorem blsOf_ok {K : PySem.W.Frag} {γ hid : List Addr} {S : Cells} {H : Hp} {ds : List D} {vs : List V} {ns : List Bool} (hold : Hold K T γ hid S H) (r : RpL K T γ (out γ S hid H) ds vs) (e : (listOf ds S).bind bls? = some ns) :
    ∃ a, vs = [.ref a] ∧ SqL K H a (ns.map V.bl) := by
  cases el : listOf ds S with
  | none => rw [el] at e; cases e
  | some l =>
    rw [el] at e
    unfold listOf at el
    split at el
    · obtain ⟨v, rfl, r1⟩ := rep1 r
      obtain ⟨a, ws, rfl, s1, z, g⟩ := seqL_ok hold r1 el
      obtain ⟨h1, h2⟩ := bls?_rep g e
      subst h1
      exact ⟨a, rfl, s1⟩
    · cases el
def dAll (ds : List D) (S : Cells) : Option D := ((listOf ds S).bind bls?).map fun bs => .bl (bs.all _root_.id)
def dAny (ds : List D) (S : Cells) : Option D := ((listOf ds S).bind bls?).map fun bs => .bl (bs.any _root_.id)
theorem cb_all (hc : X.calm = true) : CallR X (.builtin "all") (rC X.K T dAll) := (cr_all hc).dimp fun vs H Q h => by
  obtain ⟨γ, hid, S, ds, d, hold, r, e, q⟩ := h
  unfold dAll at e
  cases ei : (listOf ds S).bind bls? with
  | none => rw [ei] at e; cases e
  | some ns =>
    rw [ei] at e
    cases e
    obtain ⟨a, rfl, s1⟩ := blsOf_ok hold r ei
    exact ⟨a, ns, rfl, s1, q.same hold (.bl _)⟩
def dListOf (ds : List D) (S : Cells) : Option (List D) := match ds with
  | [.tup l] => some l
  | [d] => seqL S d
  | _ => none
theorem ct_list : CallR X (.type "list") (rCL X.K T dListOf) := call_list_of.dimp fun vs H Q h => by
  obtain ⟨γ, hid, S, ds, l, hold, r, e, q⟩ := h
  unfold dListOf at e
  split at e
  · cases e
    obtain ⟨v, rfl, r1⟩ := rep1 r
    cases r1 with
    | tup a z b => exact ⟨_, _, rfl, .inr (same_seqT (out_sub _ _ _ _) a), q.lst hold z b⟩
  · obtain ⟨v, rfl, r1⟩ := rep1 r
    obtain ⟨a, ws, rfl, s1, z, g⟩ := seqL_ok hold r1 e
    exact ⟨_, _, rfl, .inl s1, q.lst hold z g⟩
  · cases e
def dTupleOf (ds : List D) (S : Cells) : Option D := match ds with
  | [.tup l] => some (.tup l)
  | [d] => (seqL S d).map .tup
  | _ => none
theorem ct_tuple : CallR X (.type "tuple") (rC X.K T dTupleOf) := call_tuple_of.dimp fun vs H Q h => by
  obtain ⟨γ, hid, S, ds, d, hold, r, e, q⟩ := h
  unfold dTupleOf at e
  split at e
  · cases e
    obtain ⟨v, rfl, r1⟩ := rep1 r
    cases r1 with
    | tup a z b => exact ⟨_, _, rfl, .inr ⟨same_seqT (out_sub _ _ _ _) a, q.same hold (.tup a z b)⟩⟩
  · rename_i d0 _
    obtain ⟨v, rfl, r1⟩ := rep1 r
    cases eq : seqL S d0 with
    | none => rw [eq] at e; cases e
    | some l =>
      rw [eq] at e
      cases e
      obtain ⟨a, ws, rfl, s1, z, g⟩ := seqL_ok hold r1 eq
      exact ⟨_, _, rfl, .inl ⟨s1, q.tup hold z g⟩⟩
  · cases e
def minI (x : Int) (xs : List Int) : Int := PySem.W.minOf x xs
def maxI (x : Int) (xs : List Int) : Int := PySem.W.maxOf x xs
def seqA (S : Cells) : D → Option (List D)
  | .tup l => some l
  | d => seqL S d
def dMinL (ds : List D) (S : Cells) : Option D := match ds with
  | [d] => match (seqA S d).bind ints? with
    | some (x :: xs) => some (.int (minI x xs))
    | _ => none
  | _ => none
def dMaxL (ds : List D) (S : Cells) : Option D := match ds with
  | [d] => match (seqA S d).bind ints? with
    | some (x :: xs) => some (.int (maxI x xs))
    | _ => none
  | _ => none
def reprD (ds : List D) (S : Cells) : Option D := match ds with
  | [.int i] => if i.natAbs.log2 < 1920 ∧ (toString i : Str).length ≤ sizeLine then some (.str (toString i)) else none
  | [.non] => some (.str "None")
  | [d] => match vw S d with
    | some p => match p with
      | .list _ => if p.showable = true ∧ p.hasDict = false ∧ p.depth ≤ 60 ∧ p.shown.length ≤ sizeLine then some (.str p.shown) else none
      | .tuple _ => if p.showable = true ∧ p.hasDict = false ∧ p.depth ≤ 60 ∧ p.shown.length ≤ sizeLine then some (.str p.shown) else none
      | _ => none
    | none => none
  | _ => none
theorem repr_ref (hu : X.A.units + 64 < cLine) (nr : NoRepr X.A) {pins : List (Addr × Obj)} {s : Shared} {σ : St} {H : Hp} {us : List Value} {Q : VK} {v : V} {p : PyData} (I : Inv X pins σ H s) (rv : Vals [v] us) (dp : Dp X.K H v p) (hp : (∃ l, p = .list l) ∨ ∃ l, p = .tuple l)
    (z : p.showable = true ∧ p.hasDict = false ∧ p.depth ≤ 60 ∧ p.shown.length ≤ sizeLine) (q : Q (.str p.shown) H) : wpAny (model X.prog X.w) X.A (call (.builtin "repr") us) (EP X pins σ Q) X.xe s := by
  obtain ⟨u, rfl, ru⟩ := vals1 rv
  obtain ⟨as, rd⟩ := Dp.reads I p v u dp ru
  have hr : ∃ a, v = .ref a := by
    rcases hp with ⟨l, rfl⟩ | ⟨l, rfl⟩ <;> cases dp <;> exact ⟨_, rfl⟩
  obtain ⟨a, rfl⟩ := hr
  obtain rfl : u = Value.ref a := ru
  obtain ⟨z1, z2, z3, z4⟩ := z
  exact repr_of_reads' rd z1 (fun h => by rw [z2] at h; cases h) nr (by omega) (fun _ _ z => z) (fun h' u tk hk => ⟨.str _, H, I.kept hk, ⟨u, rfl⟩, q⟩) z4
theorem cb_repr (hu : X.A.units + 64 < cLine) (nr : NoRepr X.A) : CallR X (.builtin "repr") (rC X.K T reprD) := by
  intro pins s σ H vs us Q I rv h
  obtain ⟨γ, hid, S, ds, d, hold, r, e, q⟩ := h
  unfold reprD at e
  split at e
  · split at e
    · cases e
      rename_i z
      obtain ⟨v, rfl, r1⟩ := rep1 r
      cases r1
      obtain ⟨u, rfl, ru⟩ := vals1 rv
      obtain ⟨t, rfl⟩ := ru
      exact PySem.P.repr_of_int z.1 ⟨.str _, H, I.tok _, ⟨_, rfl⟩, q.same hold (.str _ z.2)⟩
    · cases e
  · cases e
    obtain ⟨v, rfl, r1⟩ := rep1 r
    cases r1
    obtain ⟨u, rfl, ru⟩ := vals1 rv
    obtain rfl : u = Value.none := ru
    exact PySem.P.repr_of_none ⟨.str _, H, I.tok _, ⟨_, rfl⟩, q.same hold (.str _ (by decide +kernel))⟩
  · rename_i d0 _ _
    obtain ⟨v, rfl, r1⟩ := rep1 r
    split at e
    · rename_i p ev
      have dp := vw_ok hold r1 ev
      split at e
      · split at e
        · cases e
          rename_i z
          exact repr_ref hu nr I rv dp (.inl ⟨_, rfl⟩) z (q.same hold (.str _ z.2.2.2))
        · cases e
      · split at e
        · cases e
          rename_i z
          exact repr_ref hu nr I rv dp (.inr ⟨_, rfl⟩) z (q.same hold (.str _ z.2.2.2))
        · cases e
      · cases e
    · cases e
  · cases e
/-- the name of a value's class -/
def tyName : D → Option String
  | .non => some "NoneType"
  | .bl _ => some "bool"
  | .int _ => some "int"
  | .str _ => some "str"
  | .lst _ => some "list"
  | .ref _ => some "list"
  | .tup _ => some "tuple"
  | .obj _ _ => none
  | .ext 0 _ => some "dict"
  | .ext _ _ => none
theorem tyX_of {K : PySem.W.Frag} {γ hid : List Addr} {S : Cells} {H : Hp} (h : Hold K T γ hid S H) {d : D} {v : V} {n : String} (r : Rp K T γ (out γ S hid H) d v) (e : tyName d = some n) (hl : ∀ k, d = .ref k → (seqL S d).isSome = true) : TyX K H v (.type n) := by
  cases r with
  | non => cases e; exact .base .non
  | bl b => cases e; exact .base (.bl b)
  | int i => cases e; exact .base (.int i)
  | str x z => cases e; exact .base (.str x)
  | lst a z b =>
    cases e
    rcases (out_sub _ _ _ _).seq a with (a | ⟨o, a⟩) | ⟨o, its, m, h1, h2, _⟩
    · exact .base (.lst a)
    · exact .base (.frz a)
    · exact .kList h1 h2
  | tup a z b =>
    cases e
    rcases same_seqT (out_sub _ _ _ _) a with (a | ⟨o, a⟩) | ⟨o, its, m, h1, h2, _⟩
    · exact .base (.tup a)
    · exact .fTuple a
    · exact .kTuple h1 h2
  | ref a =>
    rename_i k _
    cases e
    cases q : seqL S (.ref k) with
    | none =>
      have z := hl k rfl
      rw [q] at z
      cases z
    | some l =>
      obtain ⟨p, vs, e1, s1, _, _⟩ := seqL_ok h (Rp.ref (K := K) (T := T) (F := out γ S hid H) a) q
      cases e1
      rcases s1 with (s1 | ⟨o, s1⟩) | ⟨o, its, m, h1, h2, _⟩
      · exact .base (.lst s1)
      · exact .base (.frz s1)
      · exact .kList h1 h2
  | obj a b c => cases e
  | exc a => cases e
  | dc0 a => cases e; exact .base (.dK (out_sub _ _ _ _ _ _ a))
def isiD (tab : String → Bool) (d : D) (S : Cells) : Option D := match tyName d with
  | some n => match d with
    | .ref _ => if (seqL S d).isSome = true then some (.bl (tab n)) else none
    | _ => some (.bl (tab n))
  | none => none
def tyNames : List String := ["NoneType", "bool", "int", "str", "list", "tuple", "dict"]
theorem tyName_mem {d : D} {n : String} (e : tyName d = some n) : n ∈ tyNames := by
  cases d with
  | ext c l =>
    cases c with
    | zero => cases e; decide
    | succ c => cases e
  | _ => cases e <;> decide
theorem ev_isi {f : En → M D} {x2 : Str} {p2 : Pos} (tab : String → Bool) (hk : ∀ a ∈ tyNames, kitB a tn = some (tab a)) (hg : Gl X "isinstance") (hm : X.mg "isinstance" = none) (hv : bootBuiltins "isinstance" = some (.builtin "isinstance")) (he : EvE X T EE e f) (hg2 : Gl X x2) (hm2 : X.mg x2 = none) (hv2 : bootBuiltins x2 = some (.type tn))
    (hn2 : x2 ≠ "__name__" := by decide) (hd2 : (x2 == ("__debug__" : Str)) = false := by decide)
    (hs : starEach [e, .Name x2 p2] X.env = (false, eval e X.env) :: starEach [.Name x2 p2] X.env := by rfl) (hpl : (backTo pos (starEach [.Name x2 p2] X.env)).any (·.1) = false := by rfl) (hs3 : starEach [.Name x2 p2] X.env = (false, eval (.Name x2 p2) X.env) :: starEach [] X.env := by rfl) :
    EvE X T EE (.Call (.Name "isinstance" p) [e, .Name x2 p2] [] pos) (fun ρ => M.bind (f ρ) fun d => M.opt (isiD tab d)) := by
  have ha : PA X [e, .Name x2 p2] (tCons (dE X.K T EE f) (tCons (tC (.ty tn)) tNil)) := pa_cons he.pe (pa_cons (pe_bltn hg2 hm2 hv2 rfl hn2 hd2) pa_nil hs3) hs
  refine ⟨(pe_callB call_isi hg hm hv ha (by decide) (by decide) hs hpl).dimp fun σ H Q h => ?_⟩
  refine (show dG X.K T EE (repE X.K T) f σ H _ from ?_)
  obtain ⟨_, _, _, _, h1, h2, h3⟩ := bindD (rep := repE X.K T) h
  refine ⟨_, _, _, _, h1, h2, h3.imp fun v H1 ⟨d, γ1, hid, S1, ρ, q1, q3, q4, q5⟩ => ?_⟩
  obtain ⟨r, er, w5⟩ := opt_ok q5
  unfold isiD at er
  split at er
  · rename_i n en
    have fin : d ≠ d ∨ (∀ k, d = .ref k → (seqL S1 d).isSome = true) → some (D.bl (tab n)) = some r → rIsi X.K [v, .ty tn] H1 Q := fun hl er => by
      cases er
      have hl := hl.resolve_left (fun z => z rfl)
      exact ⟨v, .ty tn, .type n, .type tn, tab n, rfl, .ty tn, tyX_of q1 q4 en hl, kit_ty (hk n (tyName_mem en)), w5 γ1 H1 _ q1 (Ext.refl _ _ _) (.bl _)⟩
    split at er
    · split at er
      · rename_i hz
        exact fin (.inr fun k _ => hz) er
      · cases er
    · rename_i hne
      exact fin (.inr fun k ek => absurd ek (hne k)) er
  · cases er
end
end DL
end
section
set_option maxHeartbeats 4000000
namespace DL
open PySem PySem.Spec L2
open PyProof.Rows hiding St

def leB (a b : Int) : Bool := decide (a ≤ b)
def leP (p q : Int × Int) : Bool := !SrtO.lexB q p
def sortI (ns : List Int) : List Int := ns.mergeSort leB
def sortP (ps : List (Int × Int)) : List (Int × Int) := ps.mergeSort leP
theorem sortI_uniq {ns ms : List Int} (h : ms.Perm ns) (s : ms.Pairwise (· ≤ ·)) : ms = sortI ns := by
  refine List.Perm.eq_of_pairwise (le := fun a b : Int => a ≤ b) (fun a b _ _ h1 h2 => by omega) s ?_ (h.trans (List.mergeSort_perm ns leB).symm)
  have := List.pairwise_mergeSort (le := leB) (fun a b c h1 h2 => by
    have a1 : a ≤ b := of_decide_eq_true h1
    have a2 : b ≤ c := of_decide_eq_true h2
    exact decide_eq_true (by omega)) (fun a b => by
    unfold leB
    rcases Int.le_total a b with h | h <;> simp [h]) ns
  exact this.imp fun {a b} h => of_decide_eq_true h
theorem sortP_uniq {ns ms : List (Int × Int)} (h : ms.Perm ns) (s : ms.Pairwise (fun x y => SrtO.lexB y x = false)) : ms = sortP ns := by
  refine List.Perm.eq_of_pairwise (le := fun x y : Int × Int => SrtO.lexB y x = false) (fun a b _ _ h1 h2 => ?_) s ?_ (h.trans (List.mergeSort_perm ns leP).symm)
  · have a1 := SrtO.lexB_no.mp h1
    have a2 := SrtO.lexB_no.mp h2
    exact Prod.ext (by omega) (by omega)
  · have := List.pairwise_mergeSort (le := leP) (fun a b c h1 h2 => by
      unfold leP at *
      simp only [Bool.not_eq_true'] at *
      have a1 := SrtO.lexB_no.mp h1
      have a2 := SrtO.lexB_no.mp h2
      exact SrtO.lexB_no.mpr (by omega)) (fun a b => by
      unfold leP
      cases e1 : SrtO.lexB b a with
      | false => simp
      | true =>
        have q := SrtO.lexB_iff.mp e1
        have : SrtO.lexB a b = false := SrtO.lexB_no.mpr (by omega)
        simp [this]) ns
    exact this.imp fun {a b} h => by
      unfold leP at h
      simpa using h
def encP (p : Int × Int) : D := .tup [.int p.1, .int p.2]
def pair? : D → Option (Int × Int)
  | .tup [.int a, .int b] => some (a, b)
  | _ => none
theorem pair?_enc {d : D} {p : Int × Int} (e : pair? d = some p) : d = encP p := by
  unfold pair? at e
  split at e
  · cases e
    rfl
  · cases e
def pairs? : List D → Option (List (Int × Int))
  | [] => some []
  | d :: ds => match pair? d, pairs? ds with
    | some p, some ps => some (p :: ps)
    | _, _ => none
theorem pairs?_enc : ∀ {ds : List D} {ps : List (Int × Int)}, pairs? ds = some ps → ds = ps.map encP
  | [], ps, e => by cases e; rfl
  | d :: ds, ps, e => by
    unfold pairs? at e
    cases h1 : pair? d with
    | none => rw [h1] at e; cases e
    | some p =>
      cases h2 : pairs? ds with
      | none => rw [h1, h2] at e; cases e
      | some qs =>
        rw [h1, h2] at e
        cases e
        rw [List.map_cons, ← pair?_enc h1, ← pairs?_enc h2]
theorem pairs?_map (ps : List (Int × Int)) : pairs? (ps.map encP) = some ps := by
  induction ps with
  | nil => rfl
  | cons p ps ih =>
    rw [List.map_cons]
    unfold pairs?
    rw [ih]
    rfl
def sortD (ds : List D) (S : Cells) : Option (List D) := match listOf ds S with
  | some l => match ints? l with
    | some ns => some ((sortI ns).map .int)
    | none => match pairs? l with
      | some ps => some ((sortP ps).map encP)
      | none => none
  | none => none
/-- the pair that a value shows in a heap -/
def kH (h : Heap) : Value → Int × Int
  | .ref a => match h.get? a with
    | some o => match o.data with
      | .seq xs _ => match xs.toList with
        | [.int a _, .int b _] => (a, b)
        | _ => (0, 0)
      | _ => (0, 0)
    | none => (0, 0)
  | _ => (0, 0)
section
variable {X : Cx} {T : Tab} {EE : XX}
theorem listOf_ok {K : PySem.W.Frag} {γ hid : List Addr} {S : Cells} {H : Hp} {ds : List D} {vs : List V} {l : List D} (hold : Hold K T γ hid S H) (r : RpL K T γ (out γ S hid H) ds vs) (e : listOf ds S = some l) :
    ∃ a ws, vs = [.ref a] ∧ SqL K H a ws ∧ l.length ≤ sizeLine ∧ RpL K T γ (out γ S hid H) l ws := by
  unfold listOf at e
  split at e
  · obtain ⟨v, rfl, r1⟩ := rep1 r
    obtain ⟨a, ws, rfl, s1, z, g⟩ := seqL_ok hold r1 e
    exact ⟨a, ws, rfl, s1, z, g⟩
  · cases e
/-- a represented pair, in the heap -/
theorem pair_at {pins : List (Addr × Obj)} {s : Shared} {σ : St} {H : Hp} {γ hid : List Addr} {S : Cells} (I : Inv X pins σ H s) {p : Int × Int} {v : V} {u : Value} (r : Rp X.K T γ (out γ S hid H) (encP p) v) (ru : RelV v u) : Srt.IsPair s.heap u p.1 p.2 ∧ kH s.heap u = p ∧ ∃ t, u = .ref t := by
  obtain ⟨a, ws, rfl, s1, z, g⟩ := seqT_ok r rfl
  obtain ⟨v1, v2, rfl, g1, g2⟩ := rep2 g
  cases g1
  cases g2
  obtain rfl : u = Value.ref a := ru
  obtain ⟨its, rv, ⟨o, ho, hc, n, hd⟩, _⟩ := I.tuple s1
  obtain ⟨u1, u2, rfl, q1, q2⟩ := vals2 rv
  obtain ⟨t1, rfl⟩ := q1
  obtain ⟨t2, rfl⟩ := q2
  refine ⟨⟨a, o, t1, t2, n, rfl, ho, hc, hd⟩, ?_, a, rfl⟩
  unfold kH
  simp only [ho, hd]
theorem zip_pairs {pins : List (Addr × Obj)} {s : Shared} {σ : St} {H : Hp} {γ hid : List Addr} {S : Cells} (I : Inv X pins σ H s) : ∀ {ps : List (Int × Int)} {ws : List V} {its : List Value}, RpL X.K T γ (out γ S hid H) (ps.map encP) ws → Vals ws its →
    its.map (kH s.heap) = ps ∧ (∀ u ∈ its, ∃ t, u = Value.ref t) ∧ (∀ u ∈ its, Srt.IsPair s.heap u (kH s.heap u).1 (kH s.heap u).2 ∧ Rp X.K T γ (out γ S hid H) (encP (kH s.heap u)) (backV u))
  | [], _, _, r, v => by
    cases r
    cases v
    exact ⟨rfl, fun _ h => absurd h (by simp), fun _ h => absurd h (by simp)⟩
  | p :: ps, _, _, r, v => by
    cases r with
    | cons r1 r2 =>
      cases v with
      | cons v1 v2 =>
        obtain ⟨h1, h2, h3⟩ := zip_pairs I r2 v2
        obtain ⟨k1, k2, t, rfl⟩ := pair_at I r1 v1
        refine ⟨by rw [List.map_cons, k2, h1], fun u hu => ?_, fun u hu => ?_⟩
        · rcases List.mem_cons.mp hu with e | hu
          · exact ⟨t, e⟩
          · exact h2 u hu
        · rcases List.mem_cons.mp hu with e | hu
          · subst e
            rw [k2]
            refine ⟨k1, ?_⟩
            have e : backV (.ref t) = _ := RelV.inj (u := Value.ref t) rfl v1
            rw [e]
            exact r1
          · exact h3 u hu
theorem rep_map {K : PySem.W.Frag} {γ : List Addr} {F : Hp} {α : Type} (f : α → D) (g : α → V) : ∀ (l : List α), (∀ a ∈ l, Rp K T γ F (f a) (g a)) → RpL K T γ F (l.map f) (l.map g)
  | [], _ => .nil
  | a :: l, h => .cons (h a List.mem_cons_self) (rep_map f g l fun b hb => h b (List.mem_cons_of_mem _ hb))
theorem cb_sorted : CallR X (.builtin "sorted") (rCL X.K T sortD) := by
  intro pins s σ H vs us Q I rv h
  obtain ⟨γ, hid, S, ds, l, hold, r, e, q⟩ := h
  unfold sortD at e
  split at e
  · rename_i l0 el
    obtain ⟨a, ws, rfl, s1, z, g⟩ := listOf_ok hold r el
    split at e
    · rename_i ns en
      cases e
      obtain ⟨h1, h2⟩ := ints?_rep g en
      subst h1
      refine cr_sortedI pins s σ H _ us Q I rv ⟨a, ns, rfl, s1, fun ns' p hp hs np => ?_⟩
      rw [sortI_uniq hp hs]
      have z2 : ((sortI ns).map D.int).length ≤ sizeLine := by
        rw [List.length_map]
        unfold sortI
        rw [(List.mergeSort_perm ns leB).length_eq]
        rw [h2, List.length_map] at z
        exact z
      exact q.lst hold z2 (rep_ints _) p np
    · split at e
      · rename_i ps ep
        cases e
        have e0 := pairs?_enc ep
        subst e0
        obtain ⟨its, rv2, hl, hz⟩ := I.list s1
        obtain ⟨u, rfl, ru⟩ := vals1 rv
        obtain rfl : u = Value.ref a := ru
        obtain ⟨k1, k2, k3⟩ := zip_pairs I g rv2
        refine SrtO.sorted_pairsO (k := kH s.heap) hl.isList (by rw [← rv2.length]; exact hz) (fun v hv => (k3 v hv).1) fun h' d out h1 h2 kp hd hn => ?_
        obtain ⟨n, hn⟩ := hn
        have h3 : ∀ u ∈ out, ∃ t, u = Value.ref t := fun u hu => k2 u (h2.perm.mem_iff.mp hu)
        have ho : out.map (kH s.heap) = sortP ps := by
          refine sortP_uniq ?_ ?_
          · rw [← k1]
            exact h2.perm.map _
          · exact List.pairwise_map.mpr h1
        have hlen : (out.map backV).length ≤ sizeLine := by
          rw [List.length_map, h2.perm.length_eq, ← rv2.length]
          exact hz
        refine ⟨.ref d, upd H d (.lst (out.map backV)), I.laid (t' := s.toks) kp hd ⟨hlen, out, n, vals_back h3, hn⟩, rfl, ?_⟩
        refine q.lst hold ?_ ?_ d (I.hok.fresh hd)
        · rw [List.length_map, ← ho, List.length_map]
          rw [List.length_map] at hlen
          exact hlen
        · rw [← ho, List.map_map]
          exact rep_map (encP ∘ kH s.heap) backV out fun u hu => (k3 u (h2.perm.mem_iff.mp hu)).2
      · cases e
  · cases e
def insS (x : Int) : List Int → List Int
  | [] => [x]
  | y :: ys => if x < y then x :: y :: ys else if x = y then y :: ys else y :: insS x ys
def setSort (ns : List Int) : List Int := ns.foldr insS []
end
end DL
end
section
set_option maxHeartbeats 4000000
namespace DL
open PySem PySem.Spec L2
open PyProof.Rows hiding St
section
variable {X : Cx} {T : Tab} {EE : XX} {e o i tg : Expr} {es : List Expr} {f fo fi : En → M D} {fs : En → M (List D)} {p pos : Pos}

def okR (i j c : Int) : Bool := decide (c ≠ 0) && decide (c.natAbs < 1073741824) && Builtin.Range.small i j c && decide (0 ≤ Builtin.Range.rangeSize i j c) && decide (Builtin.Range.rangeSize i j c ≤ sizeLine)
def rangeC (i j c : Int) : Option (List D) := if okR i j c = true then some ((List.range (Builtin.Range.rangeSize i j c).toNat).map fun k => D.int (i + (k : Nat) * c)) else none
def rangeA (l : List D) : Option (List D) := match l with
  | [.int j] => rangeC 0 j 1
  | [.int i, .int j] => rangeC i j 1
  | [.int i, .int j, .int c] => rangeC i j c
  | _ => none
def range3 (l : List D) : Option (List D) := match l with
  | [.int i, .int j, .int c] => rangeC i j c
  | _ => none
def sliceStepD (d k : D) (S : Cells) : Option (List D) := match k, seqL S d with
  | .int 1, some l => some l
  | .int (-1), some l => some l.reverse
  | _, _ => none
def rMt (K : PySem.W.Frag) (T : Tab) (op : D → List D → Cells → Option (D × Cells)) : V → List V → Hp → VK → Prop := fun x vs H Q => ∃ γ hid S d ds d' S', Hold K T γ hid S H ∧ Rp K T γ (out γ S hid H) d x ∧ RpL K T γ (out γ S hid H) ds vs ∧ op d ds S = some (d', S') ∧ okV K T γ hid S H d' S' Q
/-- the receiver is of that class -/
def isTy (tn : String) (d : D) (S : Cells) : Option Unit := match d with
  | .str _ => if tn = "str" then some () else none
  | .int _ => if tn = "int" then some () else none
  | d => if tn = "list" ∧ (seqL S d).isSome = true then some () else none
theorem isTy_ok {K : PySem.W.Frag} {γ hid : List Addr} {S : Cells} {H : Hp} {tn : String} (h : Hold K T γ hid S H) {d : D} {v : V} (r : Rp K T γ (out γ S hid H) d v) (e : isTy tn d S = some ()) : tyV K tn v H := by
  unfold isTy at e
  split at e
  · cases r
    split at e
    · assumption
    · cases e
  · cases r
    split at e
    · assumption
    · cases e
  · split at e
    · rename_i hz
      cases q : seqL S d with
      | none => rw [q] at hz; cases hz.2
      | some l =>
        obtain ⟨a, vs, rfl, s1, _, _⟩ := seqL_ok h r q
        exact .inl ⟨hz.1, vs, s1⟩
    · cases e
theorem chg_ok {K : PySem.W.Frag} {α β : Type} {rep : List Addr → Hp → α → β → Prop} {γ hid : List Addr} {S : Cells} {H : Hp} {ρ : En} {σ : St} {Q : β → Hp → Prop} {f : Cells → Option (α × Cells)} (h : resG K T EE rep γ hid S H ρ σ (M.chg f S) Q) : ∃ a S', f S = some (a, S') ∧ resG K T EE rep γ hid S H ρ σ (.ok a S') Q := by
  unfold M.chg at h
  split at h
  · rename_i a S' e
    exact ⟨a, S', e, h⟩
  · exact h.elim
variable {name : Str} {apos cpos : Pos} {tn id : String} {op : D → List D → Cells → Option (D × Cells)}
theorem ev_meth (pa : PlainAttrs tn) (slot : Slot tn name id) (hty : typeOf (.builtin id) = pure (.type "method_descriptor")) (hm : MtR X id (rMt X.K T op)) (ho : EvE X T EE o fo) (ha : EvA X T EE (e :: es) fs)
    (hbase : attributeBase o name X.env (eval o X.env) = eval o X.env := by rfl)
    (hfew : ((backTo cpos (starEach (e :: es) X.env)).all (fun x => !x.1) && (backToKw cpos (keywordEach [] X.env)).all (fun x => x.1.isSome)
      && decide ((e :: es).length + ([] : List Keyword).length + (if ([] : List Keyword).isEmpty then 0 else 1) < 30)) = true := by rfl)
    (hline : (apos.endLine == cpos.line) = true := by rfl) (hs : starEach (e :: es) X.env = (false, eval e X.env) :: starEach es X.env := by rfl) (hplain : (backTo cpos (starEach es X.env)).any (·.1) = false := by rfl) :
    EvE X T EE (.Call (.Attribute o name apos) (e :: es) [] cpos) (fun ρ => M.bind (fo ρ) fun d => M.bind (M.opt (isTy tn d)) fun _ => M.bind (fs ρ) fun ds => M.chg (op d ds)) := by
  refine ⟨(pe_bm pa slot hty hm ho.pe ha.pa hbase hfew hline hs hplain).dimp fun σ H Q h => ?_⟩
  refine (show dG X.K T EE (repE X.K T) fo σ H _ from ?_)
  obtain ⟨γ, hid, S, ρ, hold, env, h⟩ := h
  obtain ⟨_, _, _, _, h1, h2, h3⟩ := bindR (rep := repE X.K T) hold env h
  refine ⟨_, _, _, _, h1, h2, h3.imp fun x H1 ⟨d1, γ1, S1, q1, q2, q3, q4, q5⟩ => ?_⟩
  cases et : isTy tn d1 S1 with
  | none =>
    rw [bind_of_stuck (opt_none et)] at q5
    exact q5.elim
  | some u =>
    rw [bind_of_ok (opt_some et)] at q5
    refine ⟨isTy_ok q1 q4 et, ?_⟩
    obtain ⟨_, _, _, _, h1, h2, h3⟩ := bindR (rep := repA X.K T) q1 q3 q5
    refine ⟨_, _, _, _, h1, h2, h3.imp fun vs H2 ⟨ds, γ2, S2, w1, w2, w3, w4, w5⟩ => ?_⟩
    obtain ⟨d', S', e, w5⟩ := chg_ok w5
    exact ⟨γ2, hid, S2, d1, ds, d', S', w1, w2.rp q4, w4, e, w5⟩
/-- a live list -/
def liveL (d : D) (S : Cells) : Option (Nat × List D) := match d with
  | .ref n => match S[n]? with
    | some ⟨true, .lst l⟩ => some (n, l)
    | _ => none
  | _ => none
theorem liveL_ok {K : PySem.W.Frag} {γ hid : List Addr} {S : Cells} {H : Hp} (h : Hold K T γ hid S H) {d : D} {v : V} {n : Nat} {l : List D} (r : Rp K T γ (out γ S hid H) d v) (e : liveL d S = some (n, l)) :
    ∃ a vs, v = .ref a ∧ H a = some (.lst vs) ∧ l.length ≤ sizeLine ∧ RpL K T [] (out γ S hid H) l vs ∧
      ∀ (l' : List D) (vs' : List V) (d' : D) (v' : V) (Q : VK), l'.length ≤ sizeLine → RpL K T [] (out γ S hid H) l' vs' → Rp K T [] (out γ S hid H) d' v' → okV K T γ hid S H d' (S.set n ⟨true, .lst l'⟩) Q → Q v' (upd H a (.lst vs')) := by
  unfold liveL at e
  split at e
  · split at e
    · rename_i q
      cases e
      cases r with
      | ref a =>
        obtain ⟨vs, h1, z, h2⟩ := h.list a q
        refine ⟨_, vs, rfl, h1, z, h2, fun l' vs' d' v' Q z' r' rd fin => ?_⟩
        obtain ⟨a1, a2⟩ := h.write a q (.lst z' r')
        exact fin γ _ v' a1 a2 (Rp.nil_any (a2.sameH hid) rd)
    · cases e
  · cases e
def mAppend (d : D) (ds : List D) (S : Cells) : Option (D × Cells) := match ds, liveL d S with
  | [x], some (n, l) => if x.flat = true ∧ l.length < sizeLine then some (.non, S.set n ⟨true, .lst (l ++ [x])⟩) else none
  | _, _ => none
theorem mt_mAppend : MtR X "list.append" (rMt X.K T mAppend) := by
  intro pins s σ H x vs v us Q I rx rv h
  refine mt_append pins s σ H x vs v us Q I rx rv ?_
  obtain ⟨γ, hid, S, d, ds, d', S', hold, r1, r2, e, q⟩ := h
  unfold mAppend at e
  split at e
  · rename_i y n l el
    split at e
    · rename_i hz
      cases e
      obtain ⟨w, rfl, ry⟩ := rep1 r2
      obtain ⟨a, ws, rfl, h1, z, g, fin⟩ := liveL_ok hold r1 el
      refine ⟨a, ws, w, rfl, rfl, h1, by rw [← g.length]; exact hz.2, fin _ _ .non .non Q ?_ (g.append (.one (Rp.toflat _ _ hz.1 ry))) .non q⟩
      rw [List.length_append]
      have := hz.2
      simp only [List.length_singleton]
      omega
    · cases e
  · cases e
theorem RpL.dropLast {K : PySem.W.Frag} {γ : List Addr} {F : Hp} {l : List D} {vs : List V} (r : RpL K T γ F l vs) : RpL K T γ F l.dropLast vs.dropLast := by
  rw [List.dropLast_eq_take, List.dropLast_eq_take, r.length]
  exact r.take _
def setAtD (d i y : D) (S : Cells) : Option Cells := match i, liveL d S with
  | .int k, some (n, l) => match ixN l.length k with
    | some j => if y.flat = true then some (S.set n ⟨true, .lst (l.set j y)⟩) else none
    | none => none
  | _, _ => none
theorem es_store (he : EvE X T EE e f) (ho : EvE X T EE o fo) (hi : EvE X T EE i fi) (hs : swapsWithSole [.Subscript o i p] e pos.line X.env = pure false := by rfl) (hw : swappedStores [.Subscript o i p] e X.env = pure none := by rfl)
    (h1 : (assignEach [.Subscript o i p] X.env).map (·.2) = [assign (.Subscript o i p) X.env] := by rfl)
    (ha : ∀ v, assign (.Subscript o i p) X.env v = (do
      let ov ← holding [v] (eval o X.env)
      let iv ← holding [v, ov] (eval i X.env)
      standAt p
      holding [v, ov, iv] (setItem ov iv v)
      release [v, ov, iv] []) := by intro _; rfl) : EvS X T EE (.Assign [.Subscript o i p] e pos) (bindS f fun y => bindS fo fun d => bindS fi fun k ρ S => match setAtD d k y S with
      | some S' => .nx ρ S'
      | none => .stuck) := by
  refine ⟨(ps_asg he.pe (pg_sub ho.pe hi.pe set_list ha) hs hw h1).dimp fun Dn σ H h => ?_⟩
  refine (show dG X.K T EE (repE X.K T) f σ H _ from ?_)
  obtain ⟨γ, hid, S, ρ, hold, env, h⟩ := h
  obtain ⟨_, _, _, _, h1, h2, h3⟩ := bindSR (rep := repE X.K T) hold env h
  refine ⟨_, _, _, _, h1, h2, h3.imp fun vy H1 ⟨y, γ1, S1, q1, q2, q3, q4, q5⟩ => ?_⟩
  refine (show dG X.K T EE (repE X.K T) fo σ H1 _ from ?_)
  obtain ⟨_, _, _, _, h1, h2, h3⟩ := bindSR (rep := repE X.K T) q1 q3 q5
  refine ⟨_, _, _, _, h1, h2, h3.imp fun vo H2 ⟨d, γ2, S2, w1, w2, w3, w4, w5⟩ => ?_⟩
  refine (show dG X.K T EE (repE X.K T) fi σ H2 _ from ?_)
  obtain ⟨_, _, _, _, h1, h2, h3⟩ := bindSR (rep := repE X.K T) w1 w3 w5
  refine ⟨_, _, _, _, h1, h2, h3.imp fun vi H3 ⟨k, γ3, S3, u1, u2, u3, u4, u5⟩ => ?_⟩
  cases es : setAtD d k y S3 with
  | none =>
    simp only [es] at u5
    exact u5.elim
  | some S' =>
    simp only [es] at u5
    unfold setAtD at es
    split at es
    · rename_i kk n l el
      split at es
      · rename_i j ej
        split at es
        · rename_i hf
          cases es
          cases u4
          obtain ⟨a, ws, rfl, g1, z, g, fin⟩ := liveL_ok u1 (u2.rp w4) el
          rw [g.length] at ej
          have ry := Rp.toflat _ _ hf (u2.rp (w2.rp q4))
          refine ⟨a, ws, kk, j, rfl, rfl, g1, ej, ?_⟩
          exact fin (l.set j y) (ws.set j vy) .non .non (fun _ H' => Dn.nx σ H') (by rw [List.length_set]; exact z) (g.set ry j) .non fun γ' H' v b1 b2 b3 => u5 γ' H' σ b1 b2 (u3.mono b2.pre (b2.sameH hid))
        · cases es
      · cases es
    · cases es
end
end DL
end
section
set_option maxHeartbeats 2000000
namespace DL
open PySem PySem.Spec L2
open PyProof.Rows hiding St

/-- the law's promise, at the heap behind the top -/
theorem law_callG {P : Program} {w : World} {K : PySem.W.Frag} {mg mb : Str → Option Value} {k : Nat} {fa a : Addr} {fd : FuncData} {x : Str} {sp : Sp} {t : Shared} {vs : List Value} {ns : List Int}
    (KX : K.In t.heap) (hns : t.heap.Ns mainGlobals mg) (hb : t.heap.Ns builtinsNs mb) (hbb : ∀ x : Str, x ≠ "__name__" → mb x = bootBuiltins x) (hlim : t.heap.NoLimit) (hg : t.gens = #[])
    (ha : t.heap.get? a = some { cls := .type "list", data := .seq vs.toArray }) (hi : IntsAre vs ns) (hl : ns.length ≤ sizeLine) (hr : Room k callerA)
    (F : ∀ base : Heap, K.In base → base.Ns mainGlobals mg → FnG P w K mg base k fa fd [x] sp) (hbind : ∀ (s : Shared) (u : Value), BindsTo s fd ⟨[u], []⟩ [(x, u)])
    (hsp : ∀ H : Hp, Only H → SqL K H a (ns.map V.int) → sp [.ref a] H (fun v _ => v = .bl true) fun _ _ _ => False) :
    codeAny (model P w) callerA (.call (.ref fa) ⟨[.ref a], []⟩) (fun r t' => r = .ok (.ret (.bool true)) ∧ OldK t.heap t'.heap ∧ t'.os = t.os ∧ AllBare t'.gens) t := by
  have rv := vals_ints hi
  have len := hi.length
  have core : ∀ H : Hp, Only H → SqL K H a (ns.map V.int) → HOk P w H t.heap → (∀ b, H b ≠ none → b = a) → (H a ≠ none → K.lookup a = none) →
      codeAny (model P w) callerA (.call (.ref fa) ⟨[.ref a], []⟩) (fun r t' => r = .ok (.ret (.bool true)) ∧ OldK t.heap t'.heap ∧ t'.os = t.os ∧ AllBare t'.gens) t := by
    intro H only sq hok one kn
    have isA : ∀ {b : Addr}, H b ≠ none → b = a := fun q => one _ q
    have nod : ∀ {b : Addr} {o : Obj} {es : Array DictEntry} {ep : Nat}, t.heap.get? b = some o → o.data = .dict es ep → H b = none := fun {b o es ep} e d => by
      cases q : H b with
      | none => rfl
      | some u =>
        have z := isA (b := b) (by rw [q]; simp)
        subst z
        rw [ha] at e
        cases e
        have d2 : Data.seq vs.toArray _ = Data.dict es ep := d
        cases d2
    have nsK : ∀ {b : Addr} {m : Str → Option Value}, t.heap.Ns b m → (hidT t.heap H).Ns b m := fun {b m} ⟨o, es, ep, e, d, r⟩ => ⟨o, es, ep, hidT_get e (nod e d), d, r⟩
    have kin : K.In (hidT t.heap H) := fun b o e => hidT_get (KX b o e) (by
      cases q : H b with
      | none => rfl
      | some u =>
        have z := isA (b := b) (by rw [q]; simp)
        subst z
        rw [kn (by rw [q]; simp)] at e
        cases e)
    have hm : Mod K mg (hidT t.heap H) := ⟨kin, nsK hns, ⟨mb, nsK hb, hbb⟩, let ⟨m, p, q⟩ := hlim; ⟨m, nsK p, q⟩⟩
    have e0 : Env0 P w K mg (hidT t.heap H) callerA [] t H := ⟨rfl, hm, fun b o e => of_hidT e, Nat.le_of_eq (hidT_size _ _), trivial, fun b hb => absurd (show b ∈ ([] : List Addr) from hb) (by simp), hok, .of_eq hg⟩
    refine codeAny_mono ((F _ kin (nsK hns)).run callerA [] t H ⟨[.ref a], []⟩ [.ref a] [.ref a] _ _ hr rfl e0 (hbind t (.ref a)) (.cons rfl .nil) (hsp H only sq)) fun r t' h => ?_
    cases r with
    | error e => exact False.elim h
    | ok fl =>
      cases fl with
      | next => exact False.elim h
      | brk => exact False.elim h
      | cont => exact False.elim h
      | ret u =>
        obtain ⟨v, H', os, bare, un, hok', r', q⟩ := h
        have q2 : v = .bl true := q
        subst q2
        obtain rfl : u = Value.bool true := r'
        refine ⟨rfl, OldK.of_keep fun b o e => ?_, os, bare⟩
        cases q : H b with
        | none => exact un.keep b o e q (by intro z; exact absurd (show b ∈ ([] : List Addr) from z) (by simp)) (by simp)
        | some u =>
          rcases only b with z | ⟨ob, xs, z⟩
          · rw [q] at z
            cases z
          · obtain ⟨e1, _⟩ := hok b _ z
            obtain ⟨e2, _⟩ := hok' b _ (un.frzs b ob _ z)
            rw [e] at e1
            cases e1
            exact e2
  cases hk : K.lookup a with
  | some o =>
    have e := KX a o hk
    rw [ha] at e
    cases e
    exact core (fun _ => none) (fun _ => .inl rfl) (.inr ⟨_, vs.toArray, _, hk, rfl, rfl, rfl, by rw [List.size_toArray, len]; exact hl, by simpa using rv⟩) (fun b u z => by have z2 : (none : Option HO) = some u := z; cases z2) (fun b z => absurd rfl z) fun z => absurd rfl z
  | none =>
    refine core (fun b => if b = a then some (.frz { cls := .type "list", data := .seq vs.toArray } (.lst (ns.map V.int))) else none) (fun b => ?_) (.inl (.inr ⟨{ cls := .type "list", data := .seq vs.toArray }, if_pos rfl⟩)) (fun b u z => ?_) (fun b z => ?_) fun _ => hk
    · by_cases hb : b = a
      · exact .inr ⟨_, _, if_pos hb⟩
      · exact .inl (if_neg hb)
    · by_cases hb : b = a
      · have z2 := (if_pos hb).symm.trans z
        cases z2
        subst hb
        exact ⟨ha, by rw [List.length_map]; exact hl, vs, _, rv, ha⟩
      · have z2 := (if_neg hb).symm.trans z
        cases z2
    · by_cases hb : b = a
      · exact hb
      · exact absurd (if_neg hb) z
/-- what k_head leaves, from the law's reading -/
theorem walk_D {l : PySem.W.OpenLaw} {n k : Nat} {q : Program} {loose : List Str} {XP : (Str → Option Value) → Heap → Prop} {YP : World → Heap → Prop} {d : DefRec} {g : List D → M D} {x : Str}
    (hn : l.most = some n) (hn2 : n ≤ sizeLine) (hdf : d.params.defaults = []) (hr : Room k callerA)
    (F : ∀ (w : World) (mg : Str → Option Value) (fa : Addr) (h : Heap), YP w h → h.Ns mainGlobals mg → mg d.name = some (.ref fa) →
      ∃ (K : PySem.W.Frag) (fd : FuncData) (T : Tab), K.In h ∧ (∀ (s : Shared) (u : Value), BindsTo s fd ⟨[u], []⟩ [(x, u)]) ∧
        ∀ base : Heap, K.In base → base.Ns mainGlobals mg → FnG l.prog w K mg base k fa fd [x] (spD K T 1 g))
    (law : ∀ ns : List Int, ns.length ≤ n → ∃ S, g [.lst (ns.map .int)] [] = .ok (.bl true) S) :
    PySem.W.WalkO q loose XP YP l.row.toRowW d [] (fun f vs => PySem.call f vs) := by
  refine Att.attach_call hn hdf fun w t0 t mg mb fa o pm cd doc a vs ns G Y ho hd hcd hmg hobj hints hlen hg => ?_
  obtain ⟨K, fd, T, KX, hb, hF⟩ := F w mg fa _ Y G.T.g hmg
  refine law_callG KX G.T.g G.T.b G.T.builtins G.T.nolimit hg hobj hints (Nat.le_trans hlen hn2) hr hF hb fun H only sq => ?_
  obtain ⟨S, e⟩ := law ns hlen
  refine ⟨[], [], [], [.lst (ns.map .int)], ⟨rfl, List.nodup_nil, fun n a c e => by simp at e, fun a h => by simp at h, fun a h => by simp at h⟩, .cons (.lst ?_ (by rw [List.length_map]; exact Nat.le_trans hlen hn2) (rep_ints ns)) .nil, rfl, _, S, e, fun γ' H' v _ _ r => ?_⟩
  · have e : out [] [] [] H = H := by
      funext b
      unfold out liveAt
      simp
    rw [e]
    exact sq
  · cases r
    rfl
end DL
end
section
set_option maxHeartbeats 8000000
namespace DL
open PySem PySem.Spec L2
open PyProof.Rows hiding St
section
variable {P : Program} {w : World} {A : Around} {E : Value → Shared → Prop} {s : Shared}
end
section
variable {X : Cx} {T : Tab} {EE : XX} {e : Expr} {f : En → M D} {p p2 pos pos2 : Pos}
def setSortD (d : D) (S : Cells) : Option (List D) := match (seqL S d).bind ints? with
  | some ns => if ns.length + 1 < scanBound then some ((setSort ns).map .int) else none
  | none => none
end
end DL
end
section
set_option maxHeartbeats 4000000
namespace DL
open PySem PySem.Spec L2
open PyProof.Rows hiding St
/-- a def of the module, by name, with its promise -/
def FnB (P : Program) (w : World) (K : PySem.W.Frag) (mg : Str → Option Value) (base : Heap) (k : Nat) (x : Str) (ps : List Str) (sp : Sp) : Prop :=
  ∃ fd, PySem.W.keepIn K (.ref (He.ga K x)) = true ∧ mg x = some (.ref (He.ga K x)) ∧ Binds K fd ps [] ∧ FnG P w K mg base k (He.ga K x) fd ps sp
section
variable {P : Program} {w : World} {K : PySem.W.Frag} {mg : Str → Option Value} {base : Heap} {T : Tab}
theorem fnB {x : Str} {k : Nat} {ps : List Str} {sp : Sp} {params : Arguments} {body : List Stmt} {scope : Scope} {dvs : List V} {kws : List (Str × V)}
    (F : ∃ fd, FunD K x x params body scope dvs kws (He.ga K x) fd) (hm : mg x = some (.ref (He.ga K x))) (hb : ∀ fd, FunD K x x params body scope dvs kws (He.ga K x) fd → Binds K fd ps [])
    (h : ∀ fd, FunD K x x params body scope dvs kws (He.ga K x) fd → FnG P w K mg base k (He.ga K x) fd ps sp) : FnB P w K mg base k x ps sp := by
  obtain ⟨fd, F⟩ := F
  exact ⟨fd, F.kp, hm, hb fd F, h fd F⟩
end
section
variable {X : Cx} {T : Tab} {EE : XX} {j k n : Nat} {x : Str} {ps : List Str} {p pos : Pos} {e : Expr} {es : List Expr} {fs : En → M (List D)}
theorem ev_callB {g : List D → M D} (F : FnB X.prog X.w X.K X.mg X.base j x ps (spD X.K T n g)) (hr : Room k X.A) (hj : j ≤ k) (nr : NoRepr X.A) (hg : Gl X x)
    (ha : EvA X T EE (e :: es) fs) (hdb : (x == ("__debug__" : Str)) = false := by decide) (he : starEach (e :: es) X.env = (false, eval e X.env) :: starEach es X.env := by rfl) (hpl : (backTo pos (starEach es X.env)).any (·.1) = false := by rfl) :
    EvE X T EE (.Call (.Name x p) (e :: es) [] pos) (fun ρ => M.bind (fs ρ) fun ds => calmM (arity n g ds)) := by
  obtain ⟨fd, hk, hm, hb, F⟩ := F
  exact ev_call F (hr.mono hj) nr hg hm hk hb ha hdb he hpl
theorem evL_callB {g : List D → M (List D)} (F : FnB X.prog X.w X.K X.mg X.base j x ps (spL X.K T n g)) (hr : Room k X.A) (hj : j ≤ k) (nr : NoRepr X.A) (hg : Gl X x)
    (ha : EvA X T EE (e :: es) fs) (hdb : (x == ("__debug__" : Str)) = false := by decide) (he : starEach (e :: es) X.env = (false, eval e X.env) :: starEach es X.env := by rfl) (hpl : (backTo pos (starEach es X.env)).any (·.1) = false := by rfl) :
    EvL X T EE (.Call (.Name x p) (e :: es) [] pos) (fun ρ => M.bind (fs ρ) fun ds => calmM (arity n g ds)) := by
  obtain ⟨fd, hk, hm, hb, F⟩ := F
  exact evL_call F (hr.mono hj) nr hg hm hk hb ha hdb he hpl
end
def tabInt (n : String) : Bool := n == "int" || n == "bool"
def tabIs (m : String) (n : String) : Bool := n == m
theorem hk_int : ∀ a ∈ tyNames, kitB a "int" = some (tabInt a) := by decide +kernel
theorem hk_bool : ∀ a ∈ tyNames, kitB a "bool" = some (tabIs "bool" a) := by decide +kernel
theorem hk_list : ∀ a ∈ tyNames, kitB a "list" = some (tabIs "list" a) := by decide +kernel
theorem hk_tuple : ∀ a ∈ tyNames, kitB a "tuple" = some (tabIs "tuple" a) := by decide +kernel
def b2 (op : D → D → Cells → Option D) (a b : M D) : M D := M.bind a fun x => M.bind b fun y => M.opt (op x y)
def b2L (op : D → D → Cells → Option (List D)) (a b : M D) : M (List D) := M.bind a fun x => M.bind b fun y => M.opt (op x y)
def b1 (op : D → Cells → Option D) (a : M D) : M D := M.bind a fun x => M.opt (op x)
def b2T (op : D → D → Cells → Option D) (a b : M D) : M Bool := M.bind a fun x => M.bind b fun y => M.opt (fun S => (op x y S).bind asB)
def chE (op op' : D → D → Cells → Option D) (a b c : M D) : M D := M.bind a fun x => M.bind b fun y => M.bind (M.opt (fun S => (op x y S).bind asB)) fun k => if k = true then (M.bind c fun z => M.opt (op' y z)) else kon (.bl false)
def notT (a : M Bool) : M Bool := M.bind a fun c S => .ok (!c) S
def valT (a : M D) : M Bool := M.bind a fun x => M.opt (truD x)
def notE (a : M D) : M D := M.bind a fun d => M.bind (M.opt (fun _ => asB d)) fun c => kon (.bl (!c))
def ifE (c : M Bool) (a b : M D) : M D := M.bind c fun k => if k = true then a else b
def ifL (c : M Bool) (a b : M (List D)) : M (List D) := M.bind c fun k => if k = true then a else b
def nilA : M (List D) := fun S => .ok [] S
def tupE (a : M (List D)) : M D := M.bind a fun l => M.opt fun _ => if l.length ≤ sizeLine then some (.tup l) else none
def lstE (a : M (List D)) : M (List D) := M.bind a fun l => M.opt fun _ => if l.length ≤ sizeLine then some l else none
def frzE (a : M (List D)) : M D := M.bind a fun l => kon (.lst l)
def celE (a : M (List D)) : M D := M.bind a newC
def cbE (op : List D → Cells → Option D) (a : M (List D)) : M D := M.bind a fun ds => M.opt (op ds)
def cbL (op : List D → Cells → Option (List D)) (a : M (List D)) : M (List D) := M.bind a fun ds => M.opt (op ds)
def callE (n : Nat) (g : List D → M D) (a : M (List D)) : M D := M.bind a fun ds => calmM (arity n g ds)
def callL (n : Nat) (g : List D → M (List D)) (a : M (List D)) : M (List D) := M.bind a fun ds => calmM (arity n g ds)
def noO : M (Option Int) := fun S => .ok none S
def smO (a : M D) : M (Option Int) := M.bind a fun d => M.opt fun _ => partD d
def slE (a : M D) (i j : M (Option Int)) : M D := M.bind a fun d => M.bind i fun i => M.bind j fun j => M.opt (slD d i j)
def slLL (a : M D) (i j : M (Option Int)) : M (List D) := M.bind a fun d => M.bind i fun i => M.bind j fun j => M.opt (slL d i j)
def revL (a : M D) : M (List D) := M.bind a fun d => M.opt fun S => (seqL S d).map List.reverse
def stepL (a k : M D) : M (List D) := M.bind a fun d => M.bind k fun y => M.opt (sliceStepD d y)
def isiE (tab : String → Bool) (a : M D) : M D := M.bind a fun d => M.opt (isiD tab d)
def setsL (a : M D) : M (List D) := M.bind a fun d => M.opt (setSortD d)
def lrgL (a : M (List D)) : M (List D) := M.bind a fun l => M.opt fun _ => rangeA l
def mthE (tn : String) (op : D → List D → Cells → Option (D × Cells)) (o : M D) (a : M (List D)) : M D := M.bind o fun d => M.bind (M.opt (isTy tn d)) fun _ => M.bind a fun ds => M.chg (op d ds)
def mth0 (tn : String) (op : D → List D → Cells → Option (D × Cells)) (o : M D) : M D := M.bind o fun d => M.bind (M.opt (isTy tn d)) fun _ => M.chg (op d [])
def itS (a : M D) : M (List D) := M.bind a fun d => M.opt fun _ => itemsD d
def itR1 (a : M (List D)) : M (List D) := M.bind a fun l => M.opt fun _ => range1 l
def itR2 (a : M (List D)) : M (List D) := M.bind a fun l => M.opt fun _ => range2 l
def itR3 (a : M (List D)) : M (List D) := M.bind a fun l => M.opt fun _ => range3 l
def itZ (a : M (List D)) : M (List D) := M.bind a fun l => M.opt fun _ => zipA l
def itN (a : M (List D)) : M (List D) := M.bind a fun l => M.opt fun _ => enumA l
def lcL (i : M (List D)) (p : Pat) (t : En → M Bool) (e : En → M D) (ρ : En) (vs : List Nat) : M (List D) := M.bind i fun items => compD p t e (wipeD ρ vs) items
def setS (i : Nat) (f : En → M D) : SM := bindS f fun d ρ S => .nx (ρ.set i (some d)) S
def parS (i j : Nat) (f : En → M (List D)) : SM := bindS f fun l ρ S => match l with
  | [d, e] => .nx ((ρ.set i (some d)).set j (some e)) S
  | _ => .stuck
def augS (i : Nat) (op : D → D → Cells → Option D) (f : En → M D) : SM := bindS (fun ρ => M.bind (rd ρ i) fun x => M.bind (f ρ) fun y => M.opt (op x y)) fun d ρ S => .nx (ρ.set i (some d)) S
def stoS (f fo fi : En → M D) : SM := bindS f fun y => bindS fo fun d => bindS fi fun k ρ S => match setAtD d k y S with
  | some S' => .nx ρ S'
  | none => .stuck
def expS (f : En → M D) : SM := bindS f fun _ => nxS
def retS (f : En → M D) : SM := bindS f fun d _ S => .rt d S
def retNS : SM := fun _ S => .rt .non S
def ifS (c : En → M Bool) (F G : SM) : SM := bindS c fun k => if k = true then F else G
def forS (f : En → M (List D)) (p : Pat) (B : SM) : SM := bindS f fun items => forD p B items
def stkS : SM := fun _ _ => .stuck
end DL
end
section
set_option maxHeartbeats 4000000
namespace DL
open PySem PySem.Spec L2
open PyProof.Rows hiding St
section
variable {X : Cx} {T : Tab}
def inP (d1 d2 : D) (S : Cells) : Option Bool := match vw S d1, vw S d2 with
  | some p, some (.list zs) => if SeqAt.shaped p = true ∧ SeqAt.shaped (.list zs) = true then some (zs.any fun z => PyData.eqv z p) else none
  | _, _ => none
def dIn (d1 d2 : D) (S : Cells) : Option D := (inP d1 d2 S).map .bl
def dNotIn (d1 d2 : D) (S : Cells) : Option D := (inP d1 d2 S).map fun b => .bl (!b)
end
section
variable {X : Cx} {T : Tab} {EE : XX} {a b c : Expr} {fa fb fc : En → M D} {pos : Pos} {o o' : CmpOp} {op op' : D → D → Cells → Option D}
def chT (op op' : D → D → Cells → Option D) (a b c : M D) : M Bool := M.bind (chE op op' a b c) fun x => M.opt fun _ => asB x
end
end DL
end
section
set_option maxHeartbeats 4000000
namespace DL
open PySem PySem.Spec L2
open PyProof.Rows hiding St
section
variable {α β : Type} {S S1 S2 S3 : Cells} {ρ : En}
end
end DL
end
section
set_option maxHeartbeats 0
namespace MS
abbrev P := Int × Int
/-- the addresses of a scan, in order -/
def rng (p : P) : List Int := if p.1 ≤ p.2 then (List.range (p.2 - p.1 + 1).toNat).map fun k => p.1 + (k : Nat) else (List.range (p.1 - p.2 + 1).toNat).map fun k => p.1 - (k : Nat)
def reads (l : List P) : List Int := l.flatMap rng
def dist (a b : Int) : Int := if a - b < 0 then -(a - b) else a - b
def touch (a b : Int) : Bool := decide (dist a b = 1)
/-- one scan put behind -/
def stp (acc : List P) (p : P) : List P := match acc.getLast? with
  | some q => if touch q.2 p.1 = true then acc.dropLast ++ [(q.1, p.2)] else acc ++ [p]
  | none => acc ++ [p]
theorem stp_snoc (l : List P) (q p : P) : stp (l ++ [q]) p = if touch q.2 p.1 = true then l ++ [(q.1, p.2)] else l ++ [q, p] := by
  unfold stp
  simp
structure Valid (l : List P) : Prop where
  nn : ∀ p ∈ l, 0 ≤ p.1 ∧ 0 ≤ p.2
  nd : (reads l).Nodup
theorem mem_rng {p : P} {a : Int} : a ∈ rng p ↔ (p.1 ≤ a ∧ a ≤ p.2) ∨ (p.2 ≤ a ∧ a ≤ p.1) := by
  obtain ⟨x, y⟩ := p
  unfold rng
  split
  · rename_i h
    simp only at h
    simp only [List.mem_map, List.mem_range]
    constructor
    · rintro ⟨k, hk, rfl⟩
      left
      omega
    · intro h2
      refine ⟨(a - x).toNat, by omega, by omega⟩
  · rename_i h
    simp only at h
    simp only [List.mem_map, List.mem_range]
    constructor
    · rintro ⟨k, hk, rfl⟩
      right
      omega
    · intro h2
      refine ⟨(x - a).toNat, by omega, by omega⟩
theorem mem_reads {l : List P} {a : Int} : a ∈ reads l ↔ ∃ p ∈ l, a ∈ rng p := by simp [reads]
theorem Valid.all {l : List P} (h : Valid l) : ∀ a ∈ reads l, 0 ≤ a := fun a ha => by
  obtain ⟨p, hp, hr⟩ := mem_reads.mp ha
  obtain ⟨h1, h2⟩ := h.nn p hp
  rcases mem_rng.mp hr with ⟨h3, h4⟩ | ⟨h3, h4⟩ <;> omega
theorem Valid.perm {l m : List P} (h : Valid l) (p : l.Perm m) : Valid m :=
  ⟨fun q hq => h.nn q (p.mem_iff.mpr hq), (p.flatMap_right rng).nodup_iff.mp h.nd⟩
theorem Valid.nil : Valid [] := ⟨fun p h => by simp at h, List.nodup_nil⟩
def z : P := (0, 0)
def tst (l : List P) (k : Nat) : Bool := k == 0 || !touch (l.getD (k - 1) z).2 (l.getD k z).1
def begs (l : List P) : List Nat := (List.range l.length).filter (tst l)
def prs : List Nat → Nat → List (Nat × Nat)
  | [], _ => []
  | [b], n => [(b, n)]
  | b :: c :: r, n => (b, c) :: prs (c :: r) n
theorem prs_zip : ∀ (bs : List Nat) (n : Nat), bs.zip (bs.drop 1 ++ [n]) = prs bs n
  | [], _ => rfl
  | [b], n => rfl
  | b :: c :: r, n => by
    have ih := prs_zip (c :: r) n
    show (b, c) :: (c :: r).zip (r ++ [n]) = (b, c) :: prs (c :: r) n
    rw [← ih]
    rfl
theorem prs_snoc : ∀ (bs : List Nat) (b n : Nat), prs (bs ++ [b]) n = prs bs b ++ [(b, n)]
  | [], _, _ => rfl
  | [c], b, n => rfl
  | c :: d :: r, b, n => by
    have ih := prs_snoc (d :: r) b n
    show (c, d) :: prs ((d :: r) ++ [b]) n = (c, d) :: prs (d :: r) b ++ [(b, n)]
    rw [ih]
    rfl
theorem prs_mem : ∀ (bs : List Nat) (n : Nat) (q : Nat × Nat), q ∈ prs bs n → q.1 ∈ bs ∧ (q.2 ∈ bs ∨ q.2 = n)
  | [], _, q, h => by simp [prs] at h
  | [b], n, q, h => by
    simp [prs] at h
    subst h
    simp
  | b :: c :: r, n, q, h => by
    rcases List.mem_cons.mp h with e | h
    · subst e
      simp
    · obtain ⟨h1, h2⟩ := prs_mem (c :: r) n q h
      exact ⟨List.mem_cons_of_mem _ h1, h2.imp (List.mem_cons_of_mem _) fun e => e⟩
def pick (l : List P) (q : Nat × Nat) : P := ((l.getD q.1 z).1, (l.getD (q.2 - 1) z).2)
theorem begs_snoc (l : List P) (p : P) : begs (l ++ [p]) = begs l ++ if tst (l ++ [p]) l.length = true then [l.length] else [] := by
  unfold begs
  rw [List.length_append, List.length_singleton, List.range_succ, List.filter_append]
  congr 1
  · apply List.filter_congr
    intro k hk
    rw [List.mem_range] at hk
    unfold tst
    rw [List.getD_eq_getElem?_getD, List.getD_eq_getElem?_getD, List.getD_eq_getElem?_getD, List.getD_eq_getElem?_getD, List.getElem?_append_left (by omega), List.getElem?_append_left (by omega)]
  · by_cases h : tst (l ++ [p]) l.length = true
    · rw [if_pos h, List.filter_cons_of_pos h]
      rfl
    · rw [if_neg h, List.filter_cons_of_neg h]
      rfl
theorem begs_lt {l : List P} {b : Nat} (h : b ∈ begs l) : b < l.length := by
  unfold begs at h
  exact List.mem_range.mp (List.mem_filter.mp h).1
theorem begs_ne {l : List P} (h : l ≠ []) : begs l ≠ [] := fun e => by
  have m : 0 ∈ begs l := by
    unfold begs
    rw [List.mem_filter, List.mem_range]
    exact ⟨List.length_pos_iff.mpr h, rfl⟩
  rw [e] at m
  simp at m
theorem pick_app {l : List P} {p : P} {q : Nat × Nat} (h1 : q.1 < l.length) (h2 : q.2 - 1 < l.length) : pick (l ++ [p]) q = pick l q := by
  unfold pick
  rw [List.getD_eq_getElem?_getD, List.getD_eq_getElem?_getD, List.getD_eq_getElem?_getD, List.getD_eq_getElem?_getD, List.getElem?_append_left h1, List.getElem?_append_left h2]
theorem getD_last (l : List P) (p : P) : (l ++ [p]).getD l.length z = p := by simp [List.getD_eq_getElem?_getD]
theorem snoc_ind {α : Type} {C : List α → Prop} (h0 : C []) (h1 : ∀ l a, C l → C (l ++ [a])) (l : List α) : C l := by
  have key : ∀ m : List α, C m.reverse := fun m => by
    induction m with
    | nil => exact h0
    | cons a m ih =>
      rw [List.reverse_cons]
      exact h1 _ _ ih
  have := key l.reverse
  rwa [List.reverse_reverse] at this
end MS
end
section
set_option maxHeartbeats 4000000
namespace DL
open PySem PySem.Spec L2
open PyProof.Rows hiding St
section
variable {S S1 : Cells}
theorem dEq_int {i j : Int} : dEq (.int i) (.int j) S = some (.bl (decide (i = j))) := by
  show some (D.bl (i == j)) = _
  have : (i == j) = decide (i = j) := by rw [Bool.eq_iff_iff]; simp
  rw [this]
theorem dNe_int {i j : Int} : dNe (.int i) (.int j) S = some (.bl (!decide (i = j))) := by
  show some (D.bl (!(i == j))) = _
  have : (i == j) = decide (i = j) := by rw [Bool.eq_iff_iff]; simp
  rw [this]
def pyP (p : MS.P) : PyData := .tuple [.int p.1, .int p.2]
theorem toPyP (l : List MS.P) : toPyL (l.map encP) = some (l.map pyP) := by
  induction l with
  | nil => rfl
  | cons p l ih =>
    show (match toPy (encP p), toPyL (l.map encP) with
      | some e, some es => some (e :: es)
      | _, _ => none) = _
    rw [ih]
    rfl
theorem resv_ps (n0 : Nat) (l : List MS.P) : resvL n0 S (l.map encP) = some (l.map encP) := by
  induction l with
  | nil => rfl
  | cons p l ih =>
    show (match resv n0 S (encP p), resvL n0 S (l.map encP) with
      | some d', some ds' => some (d' :: ds')
      | _, _ => none) = _
    rw [ih]
    rfl
theorem flat_encP (p : MS.P) : (encP p).flat = true := by
  show (D.tup [.int p.1, .int p.2]).flat = true
  rw [flat_tup]
  simp [flatL]
theorem lay_ps (l : List MS.P) : PyData.canLayAll0 (l.map pyP) = true := by
  induction l with
  | nil => rfl
  | cons p l ih =>
    show (PyData.canLay0 (pyP p) && PyData.canLayAll0 (l.map pyP)) = true
    rw [ih]
    rfl
theorem depth_ps (l : List MS.P) : PyData.depthAll (l.map pyP) ≤ 1 := by
  induction l with
  | nil => exact Nat.zero_le _
  | cons p l ih =>
    show max (PyData.depth (pyP p)) (PyData.depthAll (l.map pyP)) ≤ 1
    have : PyData.depth (pyP p) = 1 := rfl
    omega
theorem shaped_ps (l : List MS.P) : SeqAt.shaped (.list (l.map pyP)) = true := by
  show (PyData.canLayAll0 (l.map pyP) && decide (PyData.depthAll (l.map pyP) + 1 ≤ 64)) = true
  rw [lay_ps, decide_eq_true (by have := depth_ps l; omega)]
  rfl
theorem eqv_ps : ∀ (l m : List MS.P), PyData.eqvAll (l.map pyP) (m.map pyP) = decide (l = m)
  | [], [] => rfl
  | [], _ :: _ => rfl
  | _ :: _, [] => rfl
  | p :: l, q :: m => by
    show (((p.1 == q.1) && ((p.2 == q.2) && true)) && PyData.eqvAll (l.map pyP) (m.map pyP)) = _
    rw [eqv_ps l m, Bool.eq_iff_iff]
    obtain ⟨a, b⟩ := p
    obtain ⟨c, d⟩ := q
    simp
theorem vw_ps (l : List MS.P) : vw S (.lst (l.map encP)) = some (.list (l.map pyP)) := by
  unfold vw
  show (match resvL 0 S (l.map encP) with
    | some l' => some (D.lst l')
    | none => none).bind toPy = _
  rw [resv_ps]
  show (match toPyL (l.map encP) with
    | some m => some (PyData.list m)
    | none => none) = _
  rw [toPyP]
theorem eqP_of {d1 d2 : D} {p q : PyData} (h1 : vw S d1 = some p) (h2 : vw S d2 = some q) (s1 : SeqAt.shaped p = true) (s2 : SeqAt.shaped q = true) : eqP d1 d2 S = some (PyData.eqv p q) := by
  unfold eqP
  rw [h1, h2]
  exact if_pos ⟨s1, s2⟩
theorem vw_ref {n : Nat} {b : Bool} {l : List MS.P} (h : S[n]? = some ⟨b, .lst (l.map encP)⟩) : vw S (.ref n) = some (.list (l.map pyP)) := by
  unfold vw resv
  rw [if_neg (by omega), h]
  show (match toPyL (l.map encP) with
    | some m => some (PyData.list m)
    | none => none) = _
  rw [toPyP]
theorem dNe_nil {n : Nat} {b : Bool} {l : List MS.P} (h : S[n]? = some ⟨b, .lst (l.map encP)⟩) : dNe (.ref n) (.lst []) S = some (.bl (!l.isEmpty)) := by
  show (eqP _ (.lst (([] : List MS.P).map encP)) S).map (fun b => D.bl (!b)) = _
  rw [eqP_of (vw_ref h) (vw_ps []) (shaped_ps l) (shaped_ps [])]
  show some (D.bl (!PyData.eqvAll _ _)) = _
  rw [eqv_ps]
  cases l <;> rfl
theorem seqL_ref {n : Nat} {b : Bool} {l : List D} (h : S[n]? = some ⟨b, .lst l⟩) : seqL S (.ref n) = some l := by
  show (match S[n]? with
    | some ⟨_, .lst l⟩ => some l
    | _ => none) = _
  rw [h]
theorem okMul_of {i j : Int} (a b : Nat) (hi : i.natAbs < 2 ^ a) (hj : j.natAbs < 2 ^ b) (h : a + b ≤ 999999) (ha : 0 < a := by decide) (hb : 0 < b := by decide) : okMul i j = true := by
  unfold okMul
  have h1 := PySem.Flt.log2_lt_of ha hi
  have h2 := PySem.Flt.log2_lt_of hb hj
  exact decide_eq_true (by omega)
theorem sortD_ps (ps : List MS.P) : sortD [.lst (ps.map encP)] S = some ((sortP ps).map encP) := by
  unfold sortD
  show (match ints? (ps.map encP) with
    | some ns => some ((sortI ns).map D.int)
    | none => match pairs? (ps.map encP) with
      | some ps => some ((sortP ps).map encP)
      | none => none) = _
  cases ps with
  | nil => simp [ints?, sortI, sortP]
  | cons p ps =>
    show (match pairs? ((p :: ps).map encP) with
      | some ps => some ((sortP ps).map encP)
      | none => none) = _
    rw [pairs?_map]
theorem sum_ints (ns : List Int) : dSum [.lst (ns.map .int)] S = some (.int ns.sum) := by
  unfold dSum
  show ((ints? (ns.map .int)).map fun ns => D.int ns.sum) = _
  rw [ints?_map]
  rfl
theorem cut1 (xs : List D) : cutD xs (some 1) none = xs.drop 1 := by
  unfold cutD
  rw [show HT.sIx xs.length 0 (some 1) = min 1 xs.length from HT.sIx_nat xs.length 0 1, HT.sIx_none]
  cases xs with
  | nil => rfl
  | cons x r =>
    rw [show min 1 (x :: r).length = 1 by
      rw [List.length_cons]
      omega]
    show (List.take ((x :: r).length - 1) r) = r
    rw [List.length_cons, Nat.add_sub_cancel]
    exact List.take_length
theorem pairsD_map {γ δ : Type} {f : γ → D} {g : δ → D} (a : List γ) (b : List δ) : pairsD (a.map f) (b.map g) = (a.zip b).map fun q => .tup [f q.1, g q.2] := by
  unfold pairsD
  rw [List.zip_map, List.map_map]
  rfl
def logOk (i : Int) : Prop := i.natAbs.log2 < 1920
theorem logOk_of {i : Int} {b : Nat} (h : i.natAbs < 2 ^ b) (h0 : 0 < b := by decide) (h1 : b ≤ 1920 := by decide) : logOk i := Nat.lt_of_lt_of_le (PySem.Flt.log2_lt_of h0 h) h1
theorem listText_le (ts : List Str) : (listText ts).length ≤ 2 + piled ts := by
  rw [listText_eq_join, strLen_append, strLen_append]
  have e1 : (Str.ofString "[").length = 1 := by decide
  have e2 : (Str.ofString "]").length = 1 := by decide
  cases ts with
  | nil =>
    have : (Str.join ", " []).length = 0 := by decide +kernel
    omega
  | cons t ts =>
    have := join_length_add (t :: ts) (by simp)
    omega
theorem tupleText_le (ts : List Str) : (tupleText ts).length ≤ 3 + piled ts := by
  unfold tupleText
  rw [strLen_append, strLen_append]
  have e1 : (Str.ofString "(").length = 1 := by decide
  have e2 : (Str.ofString (if (ts.length == 1) = true then ",)" else ")")).length ≤ 2 := by split <;> decide
  cases ts with
  | nil =>
    have : (Str.join ", " []).length = 0 := by decide +kernel
    omega
  | cons t ts =>
    have := join_length_add (t :: ts) (by simp)
    omega
theorem shown_int_le {i : Int} (h : logOk i) : (PyData.int i).shown.length ≤ 1921 := by
  rw [PyData.shown_int]
  exact PyProof.Rows.int_text_len_1921 h
end
end DL
end
section
set_option maxHeartbeats 4000000
namespace DL
open PySem PySem.Spec L2
open PyProof.Rows hiding St
section
variable {S S1 : Cells}
end
end DL
namespace MS
def place (l : List P) (a : Int) : Option Nat := (reads l).findIdx? (· == a)
end MS
end
section
set_option maxHeartbeats 4000000
namespace DL
open PySem PySem.Spec L2
open PyProof.Rows hiding St
section
variable {K : PySem.W.Frag} {T : Tab} {γ hid : List Addr} {F : Hp}
theorem zip_look {f : Str} {d : D} : ∀ {ns : List Str} {ds : List D} {vs : List V}, RpL K T γ F ds vs → (ns.zip ds).lookup f = some d → ∃ v, (ns.zip vs).lookup f = some v ∧ Rp K T γ F d v
  | [], _, _, _, e => by simp at e
  | n :: ns, [], _, _, e => by simp at e
  | n :: ns, x :: ds, _, h, e => by
    cases h with
    | @cons _ _ v vs a b =>
      rw [List.zip_cons_cons, List.lookup_cons] at e
      rw [List.zip_cons_cons, List.lookup_cons]
      cases q : (f == n) with
      | true =>
        rw [q] at e
        cases e
        exact ⟨v, rfl, a⟩
      | false =>
        rw [q] at e
        exact zip_look b e
theorem pair_look {f : Str} {d : D} : ∀ {fs : List (Str × D)} {gs : List (Str × V)}, fs.map (·.1) = gs.map (·.1) → RpL K T γ F (fs.map (·.2)) (gs.map (·.2)) → fs.lookup f = some d → ∃ v, gs.lookup f = some v ∧ Rp K T γ F d v
  | [], _, _, _, e => by simp at e
  | (n, x) :: fs, [], h, _, _ => by simp at h
  | (n, x) :: fs, (m, y) :: gs, h, r, e => by
    have h : n :: fs.map (·.1) = m :: gs.map (·.1) := h
    injection h with h1 h2
    subst h1
    have r : RpL K T γ F (x :: fs.map (·.2)) (y :: gs.map (·.2)) := r
    cases r with
    | cons a b =>
      rw [List.lookup_cons] at e ⊢
      cases q : (f == n) with
      | true =>
        rw [q] at e
        cases e
        exact ⟨y, rfl, a⟩
      | false =>
        rw [q] at e
        exact pair_look h2 b e
/-- an attribute of an instance -/
def fldD (NM : Nat → List Str) (cs : List Nat) (f : Str) (d : D) (S : Cells) : Option D := match d with
  | .obj c l => if c ∈ cs then ((NM c).zip l).lookup f else none
  | .ref n => match S[n]? with
    | some ⟨_, .ins c fs⟩ => if c ∈ cs then fs.lookup f else none
    | _ => none
  | _ => none
def putD (f : Str) (v : D) : List (Str × D) → List (Str × D)
  | [] => [(f, v)]
  | (g, x) :: r => if g = f then (g, v) :: r else (g, x) :: putD f v r
theorem putD_rep {f : Str} {d : D} {v : V} (r : Rp K T γ F d v) : ∀ {fs : List (Str × D)} {gs : List (Str × V)}, fs.map (·.1) = gs.map (·.1) → RpL K T γ F (fs.map (·.2)) (gs.map (·.2)) → (putD f d fs).map (·.1) = (putF f v gs).map (·.1) ∧ RpL K T γ F ((putD f d fs).map (·.2)) ((putF f v gs).map (·.2))
  | [], [], _, _ => ⟨rfl, .cons r .nil⟩
  | [], _ :: _, h, _ => by simp at h
  | _ :: _, [], h, _ => by simp at h
  | (n, x) :: fs, (m, y) :: gs, h, q => by
    have h : n :: fs.map (·.1) = m :: gs.map (·.1) := h
    injection h with h1 h2
    subst h1
    have q : RpL K T γ F (x :: fs.map (·.2)) (y :: gs.map (·.2)) := q
    cases q with
    | cons a b =>
      unfold putD putF
      by_cases e : n = f
      · rw [if_pos e, if_pos e]
        exact ⟨by show n :: _ = n :: _; rw [h2], .cons r b⟩
      · rw [if_neg e, if_neg e]
        obtain ⟨i1, i2⟩ := putD_rep r h2 b
        exact ⟨by show n :: _ = n :: _; rw [i1], .cons a i2⟩
end
section
variable {X : Cx} {T : Tab} {EE : XX} {e o : Expr} {es : List Expr} {fe fo : En → M D} {fs : En → M (List D)} {f x : Str} {pos pos' p : Pos} {NM : Nat → List Str} {cs : List Nat}
theorem ev_fld (NM : Nat → List Str) (cs : List Nat) (hT : T.N = NM) (hc : ∀ c ∈ cs, Cls X.K (T.C c) ∧ NoAttr X.K (T.C c) f) (he : EvE X T EE e fe) (hb : attributeBase e f X.env (eval e X.env) = eval e X.env := by rfl) :
    EvE X T EE (.Attribute e f pos) (fun ρ => M.bind (fe ρ) fun d => M.opt (fldD NM cs f d)) := by
  refine ⟨(pe_fld he.pe hb).dimp fun σ H Q h => ?_⟩
  refine (show dG X.K T EE (repE X.K T) fe σ H _ from ?_)
  obtain ⟨_, _, _, _, h1, h2, h3⟩ := bindD (rep := repE X.K T) h
  refine ⟨_, _, _, _, h1, h2, h3.imp fun v H1 ⟨d, γ1, hid, S1, ρ, q1, q3, q4, q5⟩ => ?_⟩
  obtain ⟨y, ey, w⟩ := opt_ok q5
  unfold fldD at ey
  split at ey
  · split at ey
    · rename_i c l hcs
      cases q4 with
      | obj a z b =>
        rw [← hT] at ey
        obtain ⟨u, e1, e2⟩ := zip_look b ey
        exact ⟨_, _, _, _, u, rfl, out_sub _ _ _ _ _ _ a, (hc c hcs).1, (hc c hcs).2, e1, w γ1 H1 u q1 (Ext.refl _ _ _) e2⟩
    · cases ey
  · rename_i n
    split at ey
    · rename_i b c fs' en
      split at ey
      · rename_i hcs
        cases q4 with
        | ref a =>
          obtain ⟨ob, eo, cr⟩ := q1.cell n _ _ a en
          cases cr with
          | ins k1 k2 =>
            obtain ⟨u, e1, e2⟩ := pair_look k1 k2 ey
            exact ⟨_, _, _, _, u, rfl, eo, (hc c hcs).1, (hc c hcs).2, e1, w γ1 H1 u q1 (Ext.refl _ _ _) (Rp.nil_any (fun _ _ z => z) e2)⟩
      · cases ey
    · cases ey
  · cases ey
def setFD (cs : List Nat) (f : Str) (d y : D) (S : Cells) : Option Cells := match d with
  | .ref n => match S[n]? with
    | some ⟨true, .ins c fs⟩ => if c ∈ cs ∧ y.flat = true ∧ fs.length < 1000 then some (S.set n ⟨true, .ins c (putD f y fs)⟩) else none
    | _ => none
  | _ => none
def fldS (cs : List Nat) (f : Str) (fv fo : En → M D) : SM := bindS fv fun y => bindS fo fun d ρ S => match setFD cs f d y S with
  | some S' => .nx ρ S'
  | none => .stuck
/-- o.f = e -/
theorem es_fld (cs : List Nat) (hc : ∀ c ∈ cs, Cls X.K (T.C c) ∧ NoAttr X.K (T.C c) f) (he : EvE X T EE e fe) (ho : EvE X T EE o fo) (hs : swapsWith e (some (.Attribute o f pos')) pos.line X.env = pure false := by rfl) :
    EvS X T EE (.Assign [.Attribute o f pos'] e pos) (fldS cs f fe fo) := by
  refine ⟨(ps_fld ho.pe he.pe hs).dimp fun Dn σ H h => ?_⟩
  refine (show dG X.K T EE (repE X.K T) fe σ H _ from ?_)
  obtain ⟨γ, hid, S, ρ, hold, env, h⟩ := h
  obtain ⟨_, _, _, _, h1, h2, h3⟩ := bindSR (rep := repE X.K T) hold env h
  refine ⟨_, _, _, _, h1, h2, h3.imp fun vy H1 ⟨y, γ1, S1, q1, q2, q3, q4, q5⟩ => ?_⟩
  refine (show dG X.K T EE (repE X.K T) fo σ H1 _ from ?_)
  obtain ⟨_, _, _, _, h1, h2, h3⟩ := bindSR (rep := repE X.K T) q1 q3 q5
  refine ⟨_, _, _, _, h1, h2, h3.imp fun vo H2 ⟨d, γ2, S2, w1, w2, w3, w4, w5⟩ => ?_⟩
  cases es : setFD cs f d y S2 with
  | none =>
    simp only [es] at w5
    exact w5.elim
  | some S' =>
    simp only [es] at w5
    unfold setFD at es
    split at es
    · rename_i n
      split at es
      · rename_i c fs' en
        split at es
        · rename_i hz
          cases es
          cases w4 with
          | ref a =>
            obtain ⟨ob, eo, cr⟩ := w1.cell n _ _ a en
            cases cr with
            | ins k1 k2 =>
              rename_i dx gs
              have ry := Rp.toflat _ _ hz.2.1 (w2.rp q4)
              obtain ⟨i1, i2⟩ := putD_rep (f := f) ry k1 k2
              have gl : gs.length < 1000 := by
                have := congrArg List.length k1
                rw [List.length_map, List.length_map] at this
                omega
              obtain ⟨a1, a2⟩ := w1.write a en (.ins (dx := dx) i1 i2)
              exact ⟨_, _, dx, gs, rfl, eo, (hc c hz.1).1, (hc c hz.1).2, gl, w5 _ _ σ a1 a2 (w3.mono a2.pre (a2.sameH hid))⟩
        · cases es
      · cases es
    · cases es
def mkEnd (NM : Nat → List Str) (c n0 : Nat) : R D → R D
  | .ok .non S' => match S'[n0]? with
    | some ⟨_, .ins c' fs⟩ => if c' = c ∧ fs.map (·.1) = NM c then .ok (.obj c (fs.map (·.2))) (S'.take n0) else .stuck
    | _ => .stuck
  | _ => .stuck
/-- C(..): __init__ with a new cell, which is read from then on -/
def makeD (NM : Nat → List Str) (c n : Nat) (g : List D → M D) (ds : List D) : M D := fun S => if ds.length + 1 = n then mkEnd NM c S.length (g (.ref S.length :: ds) (S ++ [⟨true, .ins c []⟩])) else .stuck
theorem mkEnd_ok {c n0 : Nat} {r : R D} {d : D} {S' : Cells} (e : mkEnd NM c n0 r = .ok d S') : ∃ S1 b fs, r = .ok .non S1 ∧ S1[n0]? = some ⟨b, .ins c fs⟩ ∧ fs.map (·.1) = NM c ∧ d = .obj c (fs.map (·.2)) ∧ S' = S1.take n0 := by
  cases r with
  | err x S => exact absurd e (by intro z; cases z)
  | stuck => exact absurd e (by intro z; cases z)
  | ok d1 S1 =>
    cases d1 with
    | non =>
      have e : (match S1[n0]? with
        | some ⟨_, .ins c' fs⟩ => if c' = c ∧ fs.map (·.1) = NM c then .ok (.obj c (fs.map (·.2))) (S1.take n0) else .stuck
        | _ => .stuck : R D) = .ok d S' := e
      split at e
      · rename_i b c' fs en
        split at e
        · rename_i hz
          obtain ⟨rfl, hz2⟩ := hz
          cases e
          exact ⟨S1, b, fs, rfl, en, hz2, rfl, rfl⟩
        · cases e
      · cases e
    | _ => exact absurd e (by intro z; cases z)
theorem ins_frozen {K : PySem.W.Frag} {γ hid : List Addr} {S : Cells} {H : Hp} {n0 c : Nat} {a : Addr} {b : Bool} {fs : List (Str × D)} (h : Hold K T γ hid S H) (hT : T.N = NM) (ea : γ[n0]? = some a) (en : S[n0]? = some ⟨b, .ins c fs⟩) (hn : fs.map (·.1) = NM c) :
    Rp K T (γ.take n0) (out (γ.take n0) (S.take n0) hid H) (.obj c (fs.map (·.2))) (.ref a) := by
  obtain ⟨ob, eo, cr⟩ := h.cell n0 a _ ea en
  cases cr with
  | ins k1 k2 =>
    rename_i dx gs
    have ez : (T.N c).zip (gs.map (·.2)) = gs := by
      rw [hT, ← hn, k1]
      clear k1 k2 eo
      induction gs with
      | nil => rfl
      | cons g gs ih => simp [ih]
    have nl : liveAt (γ.take n0) (S.take n0) a = false := live_no fun hm => by
      obtain ⟨m, hm⟩ := List.mem_iff_getElem?.mp hm
      obtain ⟨h3, h4⟩ := getElem?_take_some hm
      have := nd_ix h.nd ea h3
      omega
    refine .obj (dx := dx) (vs := gs.map (·.2)) (out_some.mpr ⟨fun z => h.hidG _ z (List.mem_of_getElem? ea), nl, by rw [ez]; exact eo⟩) ?_ (k2.nil_any ((h.cut n0).2 hid))
    rw [List.length_map, hT, ← hn, k1, List.length_map]
theorem ev_make {c k n : Nat} {g : List D → M D} {fa : Addr} {fd : FuncData} {ps : List Str} (hM : Mk X.K (T.C c) fa) (F : FnG X.prog X.w X.K X.mg X.base k fa fd ps (spD X.K T n g)) (hT : T.N = NM) (hr : Room (k + 1) X.A) (nr : NoRepr X.A) (hg : Gl X x) (hm : X.mg x = some (.ref (T.C c))) (hb : Binds X.K fd ps [])
    (ha : EvA X T EE (e :: es) fs) (hdb : (x == ("__debug__" : Str)) = false := by decide) (he : starEach (e :: es) X.env = (false, eval e X.env) :: starEach es X.env := by rfl) (hpl : (backTo pos (starEach es X.env)).any (·.1) = false := by rfl) :
    EvE X T EE (.Call (.Name x p) (e :: es) [] pos) (fun ρ => M.bind (fs ρ) fun ds => makeD NM c n g ds) := by
  refine ⟨(pg_make (E := E0) hM F hr nr hg hm hb ha.pa hdb he hpl).dimp fun σ H Q h => ?_⟩
  refine (show dG X.K T EE (repA X.K T) fs σ H _ from ?_)
  obtain ⟨_, _, _, _, h1, h2, h3⟩ := bindD (rep := repA X.K T) h
  refine ⟨_, _, _, _, h1, h2, h3.imp fun vs H1 ⟨ds, γ1, hid, S1, ρ, q1, q3, q4, q5⟩ => ?_⟩
  intro y dx ny nd hne
  have q5 : resG X.K T EE (repE X.K T) γ1 hid S1 H1 ρ σ (makeD NM c n g ds S1) Q := q5
  unfold makeD at q5
  split at q5
  · rename_i hlen
    cases em : mkEnd NM c S1.length (g (.ref S1.length :: ds) (S1 ++ [⟨true, .ins c []⟩])) with
    | err x S => exact absurd em (by
        intro z
        cases er : g (.ref S1.length :: ds) (S1 ++ [⟨true, .ins c []⟩]) with
        | ok d S2 =>
          rw [er] at z
          cases d with
          | non =>
            have z : (match S2[S1.length]? with
              | some ⟨_, .ins c' fs⟩ => if c' = c ∧ fs.map (·.1) = NM c then .ok (.obj c (fs.map (·.2))) (S2.take S1.length) else .stuck
              | _ => .stuck : R D) = _ := z
            split at z
            · split at z <;> cases z
            · cases z
          | _ => cases z
        | err _ _ => rw [er] at z; cases z
        | stuck => rw [er] at z; cases z)
    | stuck => rw [em] at q5; exact q5.elim
    | ok d S' =>
      rw [em] at q5
      obtain ⟨S2, b, gs, er, en, hn, rfl, rfl⟩ := mkEnd_ok em
      obtain ⟨a1, a2, _⟩ := q1.lay nd (.own y)
      have ny2 : (upd H1 dx (.own y)) y = none := by rw [upd_ne (Ne.symm hne)]; exact ny
      obtain ⟨c1, c2⟩ := a1.newCell ny2 (c := .ins c []) (o := .ins (T.C c) dx []) (.ins rfl .nil)
      have ext := a2.trans c2
      have hl : γ1.length = S1.length := q1.len
      have gy : (γ1 ++ [y])[S1.length]? = some y := by rw [← hl]; simp
      refine ⟨_, hid, _, .ref S1.length :: ds, c1, .cons (.ref gy) (by rw [List.append_nil]; exact ext.rpl q4), by simpa using hlen, _, _, er, fun γ' H' v h1 h2 h3 => ?_⟩
      cases h3
      refine ⟨rfl, ?_⟩
      obtain ⟨e1, e2⟩ := Ext.cut q1 h1 (ext.trans h2)
      exact q5 _ H' _ (h1.cut _).1 e2 (ins_frozen h1 hT (h2.pre _ _ gy) en hn)
  · exact q5.elim
end
end DL
namespace DL
open PySem PySem.Spec L2
open PyProof.Rows hiding St
section
variable {X : Cx} {T : Tab} {EE : XX} {e o : Expr} {es : List Expr} {fe fo : En → M D} {fs : En → M (List D)} {f m : Str} {pos apos : Pos} {NM : Nat → List Str} {k n c : Nat} {g : List D → M D} {fa pa : Addr} {fd : FuncData} {ps : List Str}
/-- an instance of the class c (it has no attribute m) -/
def isC (NM : Nat → List Str) (c : Nat) (m : Str) (d : D) (_ : Cells) : Option Unit := match d with
  | .obj c' _ => if c' = c ∧ m ∉ NM c then some () else none
  | _ => none
theorem zip_no {f : Str} : ∀ {ns : List Str} {vs : List V}, f ∉ ns → (ns.zip vs).lookup f = none
  | [], _, _ => rfl
  | _ :: _, [], _ => rfl
  | n :: ns, v :: vs, h => by
    rw [List.zip_cons_cons, List.lookup_cons]
    have : (f == n) = false := by
      rw [beq_eq_false_iff_ne]
      exact fun e => h (by rw [e]; exact List.mem_cons_self)
    rw [this]
    exact zip_no fun z => h (List.mem_cons_of_mem _ z)
theorem isC_ok {K : PySem.W.Frag} {γ hid : List Addr} {S : Cells} {H : Hp} {d : D} {v : V} (hT : T.N = NM) (r : Rp K T γ (out γ S hid H) d v) (e : isC NM c m d S = some ()) : ∃ a dx fs, v = .ref a ∧ H a = some (.ins (T.C c) dx fs) ∧ fs.lookup m = none := by
  unfold isC at e
  split at e
  · split at e
    · rename_i hz
      obtain ⟨rfl, hn⟩ := hz
      cases r with
      | obj a z b => exact ⟨_, _, _, rfl, out_sub _ _ _ _ _ _ a, zip_no (by rw [hT]; exact hn)⟩
    · cases e
  · cases e
/-- from what is wanted of a call to its promise -/
theorem sp_of {K : PySem.W.Frag} {γ hid : List Addr} {S : Cells} {H : Hp} {ρ : En} {σ : St} {Q : VK} {E : XK} {ds : List D} {vs : List V} (w : resG K T EE (repE K T) γ hid S H ρ σ (calmM (arity n g ds) S) Q) (h : Hold K T γ hid S H) (r : RpL K T γ (out γ S hid H) ds vs) : spD K T n g vs H Q E := by
  refine spD_arity ?_
  cases eg : arity n g ds S with
  | err x S => unfold calmM at w; rw [eg] at w; exact w.elim
  | stuck => unfold calmM at w; rw [eg] at w; exact w.elim
  | ok d S' =>
    unfold calmM at w
    rw [eg] at w
    have hl : ds.length = n := by
      by_cases hn : ds.length = n
      · exact hn
      · unfold arity at eg
        rw [if_neg hn] at eg
        cases eg
    exact ⟨γ, hid, S, ds, h, r, hl, d, S', eg, fun γ' H' v b1 b2 b3 => w γ' H' v b1 b2 b3⟩
/-- what a property's getter gives -/
theorem getP {pins : List (Addr × Obj)} {σ : St} {H : Hp} {s : Shared} {Q : VK} {b : Bool} {W : Value → Shared → Prop} {a dx C pr : Addr} {gs : List (Str × V)} {sp : Sp} {E : XK} (I : Inv X pins σ H s) (ea : H a = some (.ins C dx gs)) (hc : Cls X.K C) (hp : PropOf X.K C f pr fa)
    (F : FnG X.prog X.w X.K X.mg X.base k fa fd ps sp) (hr : Room (k + 1) X.A) (nr : NoRepr X.A) (hb : Binds X.K fd ps []) (h : sp [.ref a] H Q E) : wpAny (model X.prog X.w) X.A (getAttr (.ref a) f b) (EP X pins σ Q) W s := by
  obtain ⟨mA, ob, _, _, _, _⟩ := ins_get I.hok ea
  obtain ⟨od, at2, _⟩ := ob.look
  obtain ⟨rest, rc⟩ := hp.rec_
  have I2 := I.tok (s.toks + 1)
  have len : [Value.ref a].length = ps.length := F.len _ _ _ _ h
  have isc : (PySem.W.clsIn X.K C).isSome = true := by
    obtain ⟨cd, q, _⟩ := PySem.W.any_some hc.hd
    rw [q]
    rfl
  have bd := hb { s with toks := s.toks + 1 } [.ref a] I2.kIn (by rw [List.append_nil]; exact len)
  rw [List.append_nil] at bd
  refine PySem.W.get_bind I.kIn at2 (PySem.W.plainGet_of (hc.get f)).1 (PySem.W.findObj_data isc hp.at_ hp.get hp.tak) (PySem.W.plainGet_of (hc.get f)).2 (wpAny_call (PySem.W.prop_get (s := { s with toks := s.toks + 1 }) I.kIn rc ?_))
  refine codeAny_mono (F.run X.A.in1 X.stack { s with toks := s.toks + 1 } H ⟨[.ref a], []⟩ [.ref a] [.ref a] Q E hr.in1 nr I2.env0.in1 bd (.cons rfl .nil) h) fun r t z => ?_
  cases r with
  | error er => exact False.elim z
  | ok flow =>
    cases flow with
    | ret u =>
      obtain ⟨v, H2, I3, rv, q3⟩ := I2.after z
      show wpAny _ _ (handedOut u) _ _ _
      rw [PySem.W.handedOut_of (handed_of rv)]
      exact wpAny_pure ⟨v, H2, I3, rv, q3⟩
    | next => exact False.elim z
    | brk => exact False.elim z
    | cont => exact False.elim z
/-- o.f, a property -/
theorem ev_prop {pr : Addr} (hT : T.N = NM) (ho : EvE X T EE o fo) (hc : Cls X.K (T.C c)) (hp : PropOf X.K (T.C c) f pr fa) (F : FnG X.prog X.w X.K X.mg X.base k fa fd ps (spD X.K T n g)) (hr : Room (k + 1) X.A) (nr : NoRepr X.A) (hb : Binds X.K fd ps [])
    (hab : attributeBase o f X.env (eval o X.env) = eval o X.env := by rfl) : EvE X T EE (.Attribute o f pos) (fun ρ => M.bind (fo ρ) fun d => M.bind (M.opt (isC NM c f d)) fun _ => calmM (arity n g [d])) := by
  refine ⟨⟨fun pins s σ H Q I h => ?_⟩⟩
  obtain ⟨_, _, _, _, h1, h2, h3⟩ := bindD (rep := repE X.K T) h
  refine attr_of hab (thn (ho.pe.run pins s σ H _ I ⟨_, _, _, _, h1, h2, h3⟩) fun u s1 ⟨x, H1, I1, rx, d1, γ1, hid, S1, ρ, q1, q3, q4, q5⟩ => ?_)
  cases et : isC NM c f d1 S1 with
  | none =>
    rw [bind_of_stuck (opt_none et)] at q5
    exact q5.elim
  | some w =>
    rw [bind_of_ok (opt_some et)] at q5
    obtain ⟨a, dx, gs, rfl, ea, el⟩ := isC_ok hT q4 et
    obtain rfl : u = Value.ref a := rx
    exact getP (E := E0) I1 ea hc hp F hr nr hb (sp_of q5 q1 (.cons q4 .nil))
end
end DL
end
section
set_option maxHeartbeats 4000000
namespace DL
open PySem PySem.Spec L2
open PyProof.Rows hiding St
/-- a property: its class by name, its own name -/
structure PrD where
  cls : Str
  name : Str
def prA (K : PySem.W.Frag) (p : PrD) : Addr := match PySem.W.findIn K (.ref (He.ga K p.cls)) p.name with
  | some (some (.ref a)) => a
  | _ => 0
/-- its getter -/
def prG (K : PySem.W.Frag) (p : PrD) : Addr := match PySem.W.recIn K (prA K p) "property" with
  | some (.ref g :: _) => g
  | _ => 0
def prOk (K : PySem.W.Frag) (p : PrD) : Bool := decide (PySem.W.findIn K (.ref (He.ga K p.cls)) p.name = some (some (.ref (prA K p)))) &&
  (decide (PySem.W.specialIn K (.ref (prA K p)) "__get__" = some (some (.builtin "property.__get__"))) && (decide (PySem.W.takesIn K (.ref (prA K p)) = some true) && (match PySem.W.recIn K (prA K p) "property" with
    | some (.ref g :: _) => decide (g = prG K p)
    | _ => false)))
theorem prOk_ok {K : PySem.W.Frag} {p : PrD} (h : prOk K p = true) : PropOf K (He.ga K p.cls) p.name (prA K p) (prG K p) := by
  unfold prOk at h
  simp only [Bool.and_eq_true, decide_eq_true_eq] at h
  obtain ⟨h1, h2, h3, h4⟩ := h
  refine ⟨h1, h2, h3, ?_⟩
  split at h4
  · rename_i g rest e
    rw [decide_eq_true_eq] at h4
    rw [h4] at e
    exact ⟨rest, e⟩
  · cases h4
/-- one def without defaults, by an address of one's own -/
structure DefQ where
  ad : PySem.W.Frag → Addr
  name : Str
  qual : Str
  params : Arguments
  body : List Stmt
  scope : Scope
def fnQ (K : PySem.W.Frag) (d : DefQ) : He.FnW := match K.lookup (d.ad K) with
  | some ⟨_, _, .func q, _⟩ => some (q.name, q.qualname, q.params, q.body, q.scope, q.globals, q.closure, q.builtins)
  | _ => none
def DefQ.val (d : DefQ) : He.FnW := some (d.name, d.qual, d.params, .stmts d.body, d.scope, mainGlobals, [], builtinsNs)
def DefQ.ok (K : PySem.W.Frag) (d : DefQ) : Bool := PySem.W.keepIn K (.ref (d.ad K)) && (match K.lookup (d.ad K) with
  | some ⟨_, _, .func q, _⟩ => PySem.W.codeIn K q.code d.qual && (He.dflB K q.defaults [] && He.kwdB K q.kwdefaults [])
  | _ => false)
theorem DefQ.funD {K : PySem.W.Frag} {d : DefQ} (e : fnQ K d = d.val) (h : d.ok K = true) : ∃ fd, FunD K d.name d.qual d.params d.body d.scope [] [] (d.ad K) fd := by
  unfold DefQ.ok at h
  rw [Bool.and_eq_true] at h
  obtain ⟨kp, h2⟩ := h
  unfold fnQ at e
  cases q : K.lookup (d.ad K) with
  | none =>
    rw [q] at h2
    cases h2
  | some o =>
    obtain ⟨oc, od, dt, sl⟩ := o
    rw [q] at h2 e
    cases dt with
    | func fd =>
      obtain ⟨a1, a2, a3, a4, a5, a6, a7, a8, a9, a10, a11, a12, a13, a14, a15⟩ := fd
      have e2 : (some (a1, a2, a3, a4, a5, a6, a7, a15) : He.FnW) = some (d.name, d.qual, d.params, .stmts d.body, d.scope, mainGlobals, [], builtinsNs) := e
      simp only [Option.some.injEq, Prod.mk.injEq] at e2
      obtain ⟨r1, r2, r3, r4, r5, r6, r7, r8⟩ := e2
      subst r1 r2 r3 r4 r5 r6 r7 r8
      have h3 : (PySem.W.codeIn K a13 d.qual && (He.dflB K a8 [] && He.kwdB K a9 [])) = true := h2
      rw [Bool.and_eq_true, Bool.and_eq_true] at h3
      exact ⟨_, ⟨oc, od, a8, a9, a10, a11, a12, a13, a14, sl, rfl, q, h3.1, He.dflB_ok h3.2.1, He.kwdB_ok h3.2.2⟩, kp⟩
    | _ => cases h2
abbrev AlQ : Type := Bool × List He.FnW
def obsQ (fa : List He.Fa) (pr : List PrD) (fn : List DefQ) (K : PySem.W.Frag) : AlQ := ((fa.all fun f => f.ok K) && ((pr.all fun p => prOk K p) && fn.all fun d => d.ok K), fn.map fun d => fnQ K d)
def valQ (fn : List DefQ) : AlQ := (true, fn.map DefQ.val)
def SaysQ (fa : List He.Fa) (pr : List PrD) (fn : List DefQ) (K : PySem.W.Frag) : Prop := obsQ fa pr fn K = valQ fn
section
variable {fa : List He.Fa} {pr : List PrD} {fn : List DefQ} {K : PySem.W.Frag}
theorem SaysQ.all (c : SaysQ fa pr fn K) : ((fa.all fun f => f.ok K) && ((pr.all fun p => prOk K p) && fn.all fun d => d.ok K)) = true := congrArg (fun z : AlQ => z.1) c
theorem SaysQ.fact (c : SaysQ fa pr fn K) (i : Nat) {f : He.Fa} (h : fa[i]? = some f := by rfl) : f.ok K = true := by
  have := c.all
  rw [Bool.and_eq_true] at this
  exact List.all_eq_true.mp this.1 f (List.mem_of_getElem? h)
theorem SaysQ.prop (c : SaysQ fa pr fn K) (i : Nat) {p : PrD} (h : pr[i]? = some p := by rfl) : PropOf K (He.ga K p.cls) p.name (prA K p) (prG K p) := by
  have := c.all
  rw [Bool.and_eq_true, Bool.and_eq_true] at this
  exact prOk_ok (List.all_eq_true.mp this.2.1 p (List.mem_of_getElem? h))
theorem SaysQ.def_ (c : SaysQ fa pr fn K) (i : Nat) {d : DefQ} (h : fn[i]? = some d := by rfl) : ∃ fd, FunD K d.name d.qual d.params d.body d.scope [] [] (d.ad K) fd := by
  have q := c.all
  rw [Bool.and_eq_true, Bool.and_eq_true] at q
  have e : fn.map (fun d => fnQ K d) = fn.map DefQ.val := congrArg (fun z : AlQ => z.2) c
  have e2 : (fn.map fun d => fnQ K d)[i]? = (fn.map DefQ.val)[i]? := by rw [e]
  rw [List.getElem?_map, List.getElem?_map, h] at e2
  exact DefQ.funD (Option.some.inj e2) (List.all_eq_true.mp q.2.2 d (List.mem_of_getElem? h))
end
end DL
end
section
set_option maxHeartbeats 4000000
namespace DL
open PySem PySem.Spec L2
open PyProof.Rows hiding St
/-- an operator by a reading -/
def rOM (K : PySem.W.Frag) (T : Tab) (op : D → D → M D) : V → V → Hp → VK → Prop := fun x y H Q => ∃ γ hid S d1 d2 d S', Hold K T γ hid S H ∧ Rp K T γ (out γ S hid H) d1 x ∧ Rp K T γ (out γ S hid H) d2 y ∧ op d1 d2 S = .ok d S' ∧ okV K T γ hid S H d S' Q
section
variable {X : Cx} {T : Tab} {EE : XX} {a b : Expr} {fa fb : En → M D} {pos : Pos}
theorem twoM {K : PySem.W.Frag} {op : D → D → M D} {σ : St} {H : Hp} {Q : VK} (h : dE K T EE (fun ρ => M.bind (fa ρ) fun x => M.bind (fb ρ) fun y => calmM (op x y)) σ H Q) : tOp (rOM K T op) (dE K T EE fa) (dE K T EE fb) σ H Q := by
  refine (show dG K T EE (repE K T) fa σ H _ from ?_)
  obtain ⟨γ, hid, S, ρ, hold, env, h⟩ := h
  obtain ⟨_, _, _, _, h1, h2, h3⟩ := bindR (rep := repE K T) hold env h
  refine ⟨_, _, _, _, h1, h2, h3.imp fun x H1 ⟨d1, γ1, S1, q1, q2, q3, q4, q5⟩ => ?_⟩
  obtain ⟨_, _, _, _, h1, h2, h3⟩ := bindR (rep := repE K T) q1 q3 q5
  refine ⟨_, _, _, _, h1, h2, h3.imp fun y H2 ⟨d2, γ2, S2, w1, w2, w3, w4, w5⟩ => ?_⟩
  cases eg : op d1 d2 S2 with
  | err x S => unfold calmM at w5; rw [eg] at w5; exact w5.elim
  | stuck => unfold calmM at w5; rw [eg] at w5; exact w5.elim
  | ok d S' =>
    unfold calmM at w5
    rw [eg] at w5
    exact ⟨γ2, hid, S2, d1, d2, d, S', w1, w2.rp q4, w4, eg, fun γ' H' v b1 b2 b3 => w5 γ' H' v b1 b2 b3⟩
theorem ev_cmpM {o : CmpOp} {op : D → D → M D} (ho : OpR X (compareOp o) (rOM X.K T op)) (hm : behindInMarks o b = false) (ha : EvE X T EE a fa) (hb : EvE X T EE b fb) : EvE X T EE (.Compare a [o] [b] pos) (fun ρ => M.bind (fa ρ) fun x => M.bind (fb ρ) fun y => calmM (op x y)) :=
  ⟨(pe_cmpR ho ha.pe hb.pe hm).dimp fun σ H Q h => twoM h⟩
end
section
variable {X : Cx} {T : Tab} {NM : Nat → List Str} {k c : Nat} {g : List D → M D} {fa : Addr} {fd : FuncData} {ps : List Str}
/-- a == b by a's own def -/
def eqOwn (c : Nat) (g : List D → M D) (d1 d2 : D) : M D := fun S => match d1 with
  | .obj c' _ => if c' = c then (match g [d1, d2] S with
    | .ok (.bl b) S' => (match tyName d2, d2 with
      | some _, .ref _ => .stuck
      | some _, _ => .ok (.bl b) S'
      | none, .obj c2 _ => if c2 = c then .ok (.bl b) S' else .stuck
      | none, _ => .stuck)
    | _ => .stuck) else .stuck
  | _ => .stuck
theorem op_eqOwn (hs : PySem.W.findIn X.K (.ref (T.C c)) "__eq__" = some (some (.ref fa))) (hf : PySem.W.isFn X.K (.ref fa) = true) (hn0 : ∀ n ∈ tyNames, PySem.W.notFirst X.K (T.C c) (.type n) = true)
    (F : FnG X.prog X.w X.K X.mg X.base k fa fd ps (spD X.K T 2 g)) (hr : Room k X.A) (nr : NoRepr X.A) (hb : Binds X.K fd ps []) : OpR X (compareOp .Eq) (rOM X.K T (eqOwn c g)) := by
  intro pins s σ H x y v u Q I rx ry h
  obtain ⟨γ, hid, S, d1, d2, d, S', hold, r1, r2, e, q⟩ := h
  unfold eqOwn at e
  split at e
  · rename_i c' l
    split at e
    · rename_i hc
      subst hc
      split at e
      · rename_i b S2 eg
        cases r1 with
        | @obj p dx _ _ _ a z w =>
          obtain rfl : v = Value.ref p := rx
          obtain ⟨mA, ob, _, _, _, _⟩ := ins_get I.hok (out_sub _ _ _ _ _ _ a)
          obtain ⟨od, at1, _⟩ := ob.look
          obtain ⟨m, fr⟩ := I.fr
          have run : wpAny (model X.prog X.w) X.A (call (.ref fa) [.ref p, u]) (EP X pins σ fun w H' => ∃ b', w = .bl b' ∧ Q w H') X.xe s :=
            rung (E := E0) F hr nr hb I (vs := [.ref p, y]) (.cons (show RelV (.ref p) (Value.ref p) from rfl) (.cons ry .nil)) ⟨γ, hid, S, [.obj c' l, d2], hold, .cons (.obj a z w) (.cons r2 .nil), rfl, _, _, eg, fun γ' H' v' b1 b2 b3 => by
              cases b3
              refine ⟨b, rfl, ?_⟩
              split at e
              · cases e
              · cases e
                exact q γ' H' _ b1 b2 (.bl _)
              · split at e
                · cases e
                  exact q γ' H' _ b1 b2 (.bl _)
                · cases e
              · cases e⟩
          have hty : ∃ tb, PySem.W.Looks (model X.prog X.w) s.heap (typeOf u) tb ∧ PySem.W.notFirst X.K (T.C c') tb = true := by
            split at e
            · cases e
            · rename_i hnr en
              obtain ⟨P, Z, hP⟩ := kit_of I ry (tyX_of hold r2 en fun k hk => absurd hk (hnr k))
              exact ⟨_, Z.ty _ _ I.kIn hP.1, hn0 _ (tyName_mem en)⟩
            · split at e
              · rename_i hc2
                subst hc2
                cases r2 with
                | obj a2 z2 w2 =>
                  obtain rfl : u = Value.ref _ := ry
                  obtain ⟨mB, ob2, _, _, _, _⟩ := ins_get I.hok (out_sub _ _ _ _ _ _ a2)
                  obtain ⟨od2, at2, _⟩ := ob2.look
                  exact ⟨_, at2.type, by unfold PySem.W.notFirst; simp⟩
              · cases e
            · cases e
          obtain ⟨tb, lk, nf⟩ := hty
          refine PySem.W.cmp_K (op := .Eq) (tb := tb) hr.units0 fr I.ok.mod.kin at1 lk nf hs hf (wpAny_mono run (fun t s2 z => ?_) fun _ _ z => z)
          obtain ⟨v', H2, I2, rv, b', rfl, q2⟩ := z
          obtain rfl : t = Value.bool b' := rv
          exact ⟨.bl b', H2, I2, rfl, q2⟩
      · cases e
    · cases e
  · cases e
end
end DL
end
section
set_option maxHeartbeats 4000000
namespace DL
open PySem PySem.Spec L2
open PyProof.Rows hiding St
/-- the def at an address keeps its promise -/
def FnA (P : Program) (w : World) (K : PySem.W.Frag) (mg : Str → Option Value) (base : Heap) (k : Nat) (ad : Addr) (ps : List Str) (sp : Sp) : Prop := ∃ fd, FnG P w K mg base k ad fd ps sp ∧ Binds K fd ps []
theorem fnA {P : Program} {w : World} {K : PySem.W.Frag} {mg : Str → Option Value} {base : Heap} {k : Nat} {ad : Addr} {ps : List Str} {sp : Sp} {x qual : Str} {params : Arguments} {body : List Stmt} {scope : Scope}
    (c : ∃ fd, FunD K x qual params body scope [] [] ad fd) (b : ∀ fd, FunD K x qual params body scope [] [] ad fd → Binds K fd ps []) (h : ∀ fd, FunD K x qual params body scope [] [] ad fd → FnG P w K mg base k ad fd ps sp) : FnA P w K mg base k ad ps sp :=
  let ⟨fd, F⟩ := c
  ⟨fd, h fd F, b fd F⟩
section
variable {X : Cx} {T : Tab} {EE : XX} {e o : Expr} {es : List Expr} {fe fo : En → M D} {fs : En → M (List D)} {f m : Str} {pos apos : Pos} {NM : Nat → List Str} {j k n c : Nat} {fa : Addr} {ps : List Str}
/-- from what is wanted of a call to its promise, a new list -/
theorem sp_ofL {g : List D → M (List D)} {K : PySem.W.Frag} {γ hid : List Addr} {S : Cells} {H : Hp} {ρ : En} {σ : St} {Q : VK} {E : XK} {ds : List D} {vs : List V} (w : resG K T EE (repL K T) γ hid S H ρ σ (calmM (arity n g ds) S) (fun us H' => ∀ p, H' p = none → Q (.ref p) (upd H' p (.lst us)))) (h : Hold K T γ hid S H) (r : RpL K T γ (out γ S hid H) ds vs) : spL K T n g vs H Q E := by
  refine spL_arity ?_
  cases eg : arity n g ds S with
  | err x S => unfold calmM at w; rw [eg] at w; exact w.elim
  | stuck => unfold calmM at w; rw [eg] at w; exact w.elim
  | ok d S' =>
    unfold calmM at w
    rw [eg] at w
    have hl : ds.length = n := by
      by_cases hn : ds.length = n
      · exact hn
      · unfold arity at eg
        rw [if_neg hn] at eg
        cases eg
    exact ⟨γ, hid, S, ds, h, r, hl, d, S', eg, fun γ' H' v b1 b2 z b3 => w γ' H' v b1 b2 ⟨z, b3⟩⟩
/-- o.m(e, ..) -/
def mtE (NM : Nat → List Str) (c : Nat) (m : Str) (n : Nat) (g : List D → M D) (o : M D) (a : M (List D)) : M D := M.bind o fun d => M.bind (M.opt (isC NM c m d)) fun _ => M.bind a fun ds => calmM (arity n g (d :: ds))
def mtL (NM : Nat → List Str) (c : Nat) (m : Str) (n : Nat) (g : List D → M (List D)) (o : M D) (a : M (List D)) : M (List D) := M.bind o fun d => M.bind (M.opt (isC NM c m d)) fun _ => M.bind a fun ds => calmM (arity n g (d :: ds))
def mt0E (NM : Nat → List Str) (c : Nat) (m : Str) (n : Nat) (g : List D → M D) (o : M D) : M D := M.bind o fun d => M.bind (M.opt (isC NM c m d)) fun _ => calmM (arity n g [d])
def mt0L (NM : Nat → List Str) (c : Nat) (m : Str) (n : Nat) (g : List D → M (List D)) (o : M D) : M (List D) := M.bind o fun d => M.bind (M.opt (isC NM c m d)) fun _ => calmM (arity n g [d])
theorem ev_propA {g : List D → M D} {pr : Addr} (F : FnA X.prog X.w X.K X.mg X.base j fa ps (spD X.K T n g)) (hr : Room k X.A) (hj : j + 1 ≤ k) (nr : NoRepr X.A) (hT : T.N = NM) (hc : Cls X.K (T.C c)) (hp : PropOf X.K (T.C c) f pr fa) (ho : EvE X T EE o fo)
    (hab : attributeBase o f X.env (eval o X.env) = eval o X.env := by rfl) : EvE X T EE (.Attribute o f pos) (fun ρ => mt0E NM c f n g (fo ρ)) :=
  let ⟨_, F, b⟩ := F
  ev_prop hT ho hc hp F (hr.mono hj) nr b hab
/-- o.f, a property that hands back a new list -/
theorem evL_propA {g : List D → M (List D)} {pr : Addr} (F : FnA X.prog X.w X.K X.mg X.base j fa ps (spL X.K T n g)) (hr : Room k X.A) (hj : j + 1 ≤ k) (nr : NoRepr X.A) (hT : T.N = NM) (hc : Cls X.K (T.C c)) (hp : PropOf X.K (T.C c) f pr fa) (ho : EvE X T EE o fo)
    (hab : attributeBase o f X.env (eval o X.env) = eval o X.env := by rfl) : EvL X T EE (.Attribute o f pos) (fun ρ => mt0L NM c f n g (fo ρ)) := by
  obtain ⟨fd, F, hb⟩ := F
  have hr := hr.mono hj
  refine ⟨⟨fun pins s σ H Q I h => ?_⟩⟩
  have h : dG X.K T EE (repL X.K T) (fun ρ => M.bind (fo ρ) fun d => M.bind (M.opt (isC NM c f d)) fun _ => calmM (arity n g [d])) σ H _ := h
  obtain ⟨_, _, _, _, h1, h2, h3⟩ := bindD (rep := repE X.K T) h
  refine attr_of hab (thn (ho.pe.run pins s σ H _ I ⟨_, _, _, _, h1, h2, h3⟩) fun u s1 ⟨x, H1, I1, rx, d1, γ1, hid, S1, ρ, q1, q3, q4, q5⟩ => ?_)
  cases et : isC NM c f d1 S1 with
  | none =>
    rw [bind_of_stuck (opt_none et)] at q5
    exact q5.elim
  | some w =>
    rw [bind_of_ok (opt_some et)] at q5
    obtain ⟨a, dx, gs, rfl, ea, el⟩ := isC_ok hT q4 et
    obtain rfl : u = Value.ref a := rx
    exact getP (E := E0) I1 ea hc hp F hr nr hb (sp_ofL q5 q1 (.cons q4 .nil))
/-- C(..) -/
def makeE (NM : Nat → List Str) (c n : Nat) (g : List D → M D) (a : M (List D)) : M D := M.bind a fun ds => makeD NM c n g ds
theorem ev_makeA {x : Str} {p : Pos} {g : List D → M D} (F : FnA X.prog X.w X.K X.mg X.base j fa ps (spD X.K T n g)) (hr : Room k X.A) (hj : j + 1 ≤ k) (nr : NoRepr X.A) (hT : T.N = NM) (hM : Mk X.K (T.C c) fa) (hm : X.mg x = some (.ref (T.C c))) (hg : Gl X x)
    (ha : EvA X T EE (e :: es) fs) (hdb : (x == ("__debug__" : Str)) = false := by decide) (he : starEach (e :: es) X.env = (false, eval e X.env) :: starEach es X.env := by rfl) (hpl : (backTo pos (starEach es X.env)).any (·.1) = false := by rfl) :
    EvE X T EE (.Call (.Name x p) (e :: es) [] pos) (fun ρ => makeE NM c n g (fs ρ)) :=
  let ⟨_, F, b⟩ := F
  ev_make hM F hT (hr.mono hj) nr hg hm b ha hdb he hpl
/-- an instance of the class c -/
def isO (c : Nat) (d : D) (_ : Cells) : Option Unit := match d with
  | .obj c' _ => if c' = c then some () else none
  | _ => none
/-- o(e, ..), o an instance -/
def icE (c n : Nat) (g : List D → M D) (o : M D) (a : M (List D)) : M D := M.bind o fun d => M.bind (M.opt (isO c d)) fun _ => M.bind a fun ds => calmM (arity n g (d :: ds))
end
section
variable {X : Cx} {T : Tab} {k c : Nat} {g : D → D → M D} {f : Value → Value → Sem Value} {b : D → D → Cells → Option D} {r : List (Nat × (D → D → M D))}
def uM (op : D → M D) (a : M D) : M D := M.bind a fun x => calmM (op x)
def b2M (op : D → D → M D) (a b : M D) : M D := M.bind a fun x => M.bind b fun y => calmM (op x y)
end
/-- a class's own operator: its name, the built-in kinds that may stand at its right -/
structure OpD where
  cls : Str
  name : Str
def OpD.ok (K : PySem.W.Frag) (d : OpD) : Bool := PySem.W.selfFirst K (He.ga K d.cls) && (He.eqO (PySem.W.findIn K (.ref (He.ga K d.cls)) d.name) (some (some (.ref (He.ma K (He.ga K d.cls) d.name)))) &&
  (PySem.W.isFn K (.ref (He.ma K (He.ga K d.cls) d.name)) && (PySem.W.fnIn K (He.ma K (He.ga K d.cls) d.name) && ((PySem.W.isClsIn K (He.ga K d.cls)) && (tyNames.all fun n => PySem.W.notFirst K (He.ga K d.cls) (.type n))))))
structure OwnF (K : PySem.W.Frag) (C f : Addr) (m : Str) : Prop where
  first : PySem.W.selfFirst K C = true
  at_ : PySem.W.findIn K (.ref C) m = some (some (.ref f))
  fn : PySem.W.isFn K (.ref f) = true
  fi : PySem.W.fnIn K f = true
  isc : PySem.W.isClsIn K C = true
  nf : ∀ n ∈ tyNames, PySem.W.notFirst K C (.type n) = true
theorem OpD.ok_ok {K : PySem.W.Frag} {d : OpD} (h : d.ok K = true) : OwnF K (He.ga K d.cls) (He.ma K (He.ga K d.cls) d.name) d.name := by
  unfold OpD.ok at h
  simp only [Bool.and_eq_true] at h
  obtain ⟨h1, h2, h3, h4, h5, h6⟩ := h
  exact ⟨h1, He.eqO_ok h2, h3, h4, h5, fun n hn => List.all_eq_true.mp h6 n hn⟩
section
variable {X : Cx} {T : Tab} {NM : Nat → List Str} {j k c n : Nat} {g : List D → M D} {fa : Addr} {ps : List Str}
theorem op_eqA (F : FnA X.prog X.w X.K X.mg X.base j fa ps (spD X.K T 2 g)) (hr : Room k X.A) (hj : j ≤ k) (nr : NoRepr X.A) (h : OwnF X.K (T.C c) fa "__eq__") : OpR X (compareOp .Eq) (rOM X.K T (eqOwn c g)) :=
  let ⟨_, F, b⟩ := F
  op_eqOwn h.at_ h.fn h.nf (F.mono hj) hr nr b
end
/-- what + and * want besides: the names of the operator, no reflected one -/
structure BinF (K : PySem.W.Frag) (C f : Addr) (o : Operator) : Prop where
  own : OwnF K C f (PySem.dunder o.info.2)
  refl : PySem.W.findIn K (.ref C) (PySem.dunderR o.info.2) = some none
  lf : ∀ n ∈ tyNames, ∃ fo, PySem.W.findIn K (.type n) (PySem.dunder o.info.2) = some fo
  rf : ∀ n ∈ tyNames, ∃ fo, PySem.W.findIn K (.type n) (PySem.dunderR o.info.2) = some fo
  sb : ∀ n ∈ tyNames, PySem.W.subIn K (.type n) (.ref C) = some false
structure BnD where
  cls : Str
  op : Operator
def BnD.ok (K : PySem.W.Frag) (d : BnD) : Bool := (OpD.mk d.cls (PySem.dunder d.op.info.2)).ok K && (He.eqO (PySem.W.findIn K (.ref (He.ga K d.cls)) (PySem.dunderR d.op.info.2)) (some none) &&
  (tyNames.all fun n => (PySem.W.findIn K (.type n) (PySem.dunder d.op.info.2)).isSome && ((PySem.W.findIn K (.type n) (PySem.dunderR d.op.info.2)).isSome && decide (PySem.W.subIn K (.type n) (.ref (He.ga K d.cls)) = some false))))
theorem BnD.ok_ok {K : PySem.W.Frag} {d : BnD} (h : d.ok K = true) : BinF K (He.ga K d.cls) (He.ma K (He.ga K d.cls) (PySem.dunder d.op.info.2)) d.op := by
  unfold BnD.ok at h
  simp only [Bool.and_eq_true, List.all_eq_true, decide_eq_true_eq] at h
  obtain ⟨h1, h2, h3⟩ := h
  exact ⟨OpD.ok_ok h1, He.eqO_ok h2, fun n hn => Option.isSome_iff_exists.mp (h3 n hn).1, fun n hn => Option.isSome_iff_exists.mp (h3 n hn).2.1, fun n hn => (h3 n hn).2.2⟩
section
variable {X : Cx} {T : Tab} {NM : Nat → List Str} {j k c n : Nat} {g : List D → M D} {fa : Addr} {ps : List Str}
/-- a + b, a * b by a's own def; b plain, or of the same class; the answer is data -/
def binOwn (c : Nat) (g : List D → M D) (d1 d2 : D) : M D := fun S => match d1 with
  | .obj c' _ => if c' = c then (match tyName d2, d2 with
      | some _, .ref _ => .stuck
      | some _, .lst _ => .stuck
      | some _, .tup _ => .stuck
      | some _, .ext _ _ => .stuck
      | some _, _ => g [d1, d2] S
      | none, .obj c2 _ => if c2 = c then g [d1, d2] S else .stuck
      | none, _ => .stuck) else .stuck
  | _ => .stuck
/-- ~a by a's own def -/
def invOwn (c : Nat) (g : List D → M D) (d1 : D) : M D := fun S => match d1 with
  | .obj c' _ => if c' = c then g [d1] S else .stuck
  | _ => .stuck
end
/-- further facts -/
inductive XF where
  | isi (c : Str) (cs : List (Str × Bool))
  | ins (c : Str)
  | ne (c : Str)
  /-- a class of errors; isinstance of its errors with own and built-in classes; except d takes them -/
  | xc (c : Str)
  | xk (c d : Str) (b : Bool)
  | xt (c : Str) (t : String) (b : Bool)
  | xm (c d : Str)
def XF.ok (K : PySem.W.Frag) : XF → Bool
  | .isi c cs => (tyNames.all fun n => decide (PySem.W.kitOne K (.type n) (.ref (He.ga K c)) = some false)) && (cs.all fun p => decide (PySem.W.kitOne K (.ref (He.ga K p.1)) (.ref (He.ga K c)) = some p.2))
  | .ins c => He.eqO (PySem.W.findIn K (.ref (He.ga K c)) "__class__") (some (some (.builtin "object.__class__"))) && (He.eqO (PySem.W.specialIn K (.builtin "object.__class__") "__get__") (some (some (.builtin "getset_descriptor.__get__"))) && (decide (PySem.W.takesIn K (.builtin "object.__class__") = some true) && decide (PySem.W.mroIn K (He.ga K c) (.type "object") = some true)))
  | .ne c => He.eqO (PySem.W.findIn K (.ref (He.ga K c)) "__ne__") (some (some (.builtin "object.__ne__"))) && decide (PySem.W.mroIn K (He.ga K c) (.type "object") = some true)
  | .xc c => PySem.W.excIn K (He.ga K c) [.type "ValueError", .type "Exception", .type "BaseException", .type "object"] "ValueError.__new__" && (PySem.W.keepIn K (.ref (He.ga K c)) && (decide (PySem.W.subIn K (.ref (He.ga K c)) (.type "BaseException") = some true) && (decide (PySem.W.typeIn K (.ref (He.ga K c)) = some (.type "type")) &&
    (He.eqO (PySem.W.findIn K (.ref (He.ga K c)) "__getattribute__") (some (some (.builtin "BaseException.__getattribute__"))) && (He.eqO (PySem.W.findIn K (.ref (He.ga K c)) "__getattr__") (some none) && (PySem.W.hasDictIn K (He.ga K c) && (He.eqO (PySem.W.findIn K (.ref (He.ga K c)) "__class__") (some (some (.builtin "object.__class__"))) &&
    (He.eqO (PySem.W.specialIn K (.builtin "object.__class__") "__get__") (some (some (.builtin "getset_descriptor.__get__"))) && (decide (PySem.W.takesIn K (.builtin "object.__class__") = some true) && decide (PySem.W.mroIn K (He.ga K c) (.type "object") = some true))))))))))
  | .xk c d b => decide (PySem.W.kitOne K (.ref (He.ga K c)) (.ref (He.ga K d)) = some b)
  | .xt c t b => decide (PySem.W.kitOne K (.ref (He.ga K c)) (.type t) = some b)
  | .xm c d => decide (PySem.W.exmOne K (.ref (He.ga K c)) (.ref (He.ga K d)) = some true)
/-- what an instance's type asks -/
structure InsT (K : PySem.W.Frag) (C : Addr) : Prop where
  cl : Cls K C
  ha : PySem.W.findIn K (.ref C) "__class__" = some (some (.builtin "object.__class__"))
  hn : PySem.W.specialIn K (.builtin "object.__class__") "__get__" = some (some (.builtin "getset_descriptor.__get__"))
  tk : PySem.W.takesIn K (.builtin "object.__class__") = some true
  mr : PySem.W.mroIn K C (.type "object") = some true
theorem ins_ok {K : PySem.W.Frag} {c : Str} (cl : Cls K (He.ga K c)) (h : (XF.ins c).ok K = true) : InsT K (He.ga K c) := by
  unfold XF.ok at h
  simp only [Bool.and_eq_true, decide_eq_true_eq] at h
  exact ⟨cl, He.eqO_ok h.1, He.eqO_ok h.2.1, h.2.2.1, h.2.2.2⟩
theorem isi_ok {K : PySem.W.Frag} {c : Str} {cs : List (Str × Bool)} (h : (XF.isi c cs).ok K = true) : (∀ n ∈ tyNames, PySem.W.kitOne K (.type n) (.ref (He.ga K c)) = some false) ∧ ∀ p ∈ cs, PySem.W.kitOne K (.ref (He.ga K p.1)) (.ref (He.ga K c)) = some p.2 := by
  unfold XF.ok at h
  simp only [Bool.and_eq_true, List.all_eq_true, decide_eq_true_eq] at h
  exact h
def obsW (fa : List He.Fa) (pr : List PrD) (op : List OpD) (bn : List BnD) (xf : List XF) (fn : List DefQ) (K : PySem.W.Frag) : AlQ := ((fa.all fun f => f.ok K) && ((pr.all fun p => prOk K p) && ((op.all fun p => p.ok K) && ((bn.all fun p => p.ok K) && ((xf.all fun p => p.ok K) && fn.all fun d => d.ok K)))), fn.map fun d => fnQ K d)
def SaysW (fa : List He.Fa) (pr : List PrD) (op : List OpD) (bn : List BnD) (xf : List XF) (fn : List DefQ) (K : PySem.W.Frag) : Prop := obsW fa pr op bn xf fn K = valQ fn
def addB {α : Type} : List Addr → Nat → List Addr → (Nat → List Addr → α) → α
  | [], seen, acc, k => k seen acc
  | r :: rs, seen, acc, k => match Nat.beq (Nat.land 1 (Nat.shiftRight seen r)) 1 with
    | true => addB rs seen acc k
    | false => HandSHeadRun.frNat (Nat.lor seen (Nat.shiftLeft 1 r)) fun s2 => addB rs s2 (r :: acc) k
def stepB {α : Type} (g : Addr → Option Obj) : List Addr → Nat → List Addr → (Nat → List Addr → α) → α
  | [], seen, acc, k => k seen acc
  | a :: as, seen, acc, k => match g a with
    | none => stepB g as seen acc k
    | some o => addB (He.refsD o) seen acc fun s2 acc => stepB g as s2 acc k
def levB (g : Addr → Option Obj) : Nat → List Addr → Nat → List Addr → List Addr
  | 0, _, _, acc => acc
  | n + 1, fr, seen, acc => stepB g fr seen [] fun s2 new => levB g n new s2 (acc ++ new)
def reachB (g : Addr → Option Obj) (n : Nat) : List Addr := levB g n [mainGlobals] (Nat.shiftLeft 1 mainGlobals) [mainGlobals]
def obsWG (n : Nat) (fa : List He.Fa) (pr : List PrD) (op : List OpD) (bn : List BnD) (xf : List XF) (fn : List DefQ) (g : Addr → Option Obj) : AlQ := obsW fa pr op bn xf fn (He.frG g (reachB g n))
def hookW (n : Nat) (fa : List He.Fa) (pr : List PrD) (op : List OpD) (bn : List BnD) (xf : List XF) (fn : List DefQ) : PySem.W.Hook where
  α := AlQ
  obs := fun s => obsWG n fa pr op bn xf fn s.heap.get?
  val := fun _ => valQ fn
  says := fun _ h => ∃ K : PySem.W.Frag, K.In h ∧ SaysW fa pr op bn xf fn K
  of := fun _ _ e => ⟨_, He.frG_in, e⟩
  keeps := fun _ _ _ ⟨K, hK, c⟩ k => ⟨K, PySem.W.Frag.In.keeps hK k, c⟩
theorem obsWG_eq {n : Nat} {fa : List He.Fa} {pr : List PrD} {op : List OpD} {bn : List BnD} {xf : List XF} {fn : List DefQ} {g : Addr → Option Obj} {s : Shared} (h : ∀ a, g a = s.heap.get? a) : obsWG n fa pr op bn xf fn g = (hookW n fa pr op bn xf fn).obs s := by
  have e : g = s.heap.get? := funext h
  rw [e]
  rfl
section
variable {fa : List He.Fa} {pr : List PrD} {op : List OpD} {bn : List BnD} {xf : List XF} {fn : List DefQ} {K : PySem.W.Frag}
theorem SaysW.all (c : SaysW fa pr op bn xf fn K) : (fa.all fun f => f.ok K) = true ∧ (pr.all fun p => prOk K p) = true ∧ (op.all fun p => p.ok K) = true ∧ (bn.all fun p => p.ok K) = true ∧ (xf.all fun p => p.ok K) = true ∧ (fn.all fun d => d.ok K) = true := by
  have h : ((fa.all fun f => f.ok K) && ((pr.all fun p => prOk K p) && ((op.all fun p => p.ok K) && ((bn.all fun p => p.ok K) && ((xf.all fun p => p.ok K) && fn.all fun d => d.ok K))))) = true := congrArg (fun z : AlQ => z.1) c
  simpa only [Bool.and_eq_true] using h
theorem SaysW.fact (c : SaysW fa pr op bn xf fn K) (i : Nat) {f : He.Fa} (h : fa[i]? = some f := by rfl) : f.ok K = true := List.all_eq_true.mp c.all.1 f (List.mem_of_getElem? h)
theorem SaysW.prop (c : SaysW fa pr op bn xf fn K) (i : Nat) {p : PrD} (h : pr[i]? = some p := by rfl) : PropOf K (He.ga K p.cls) p.name (prA K p) (prG K p) := prOk_ok (List.all_eq_true.mp c.all.2.1 p (List.mem_of_getElem? h))
theorem SaysW.own (c : SaysW fa pr op bn xf fn K) (i : Nat) {p : OpD} (h : op[i]? = some p := by rfl) : OwnF K (He.ga K p.cls) (He.ma K (He.ga K p.cls) p.name) p.name := OpD.ok_ok (List.all_eq_true.mp c.all.2.2.1 p (List.mem_of_getElem? h))
theorem SaysW.more (c : SaysW fa pr op bn xf fn K) (i : Nat) {p : XF} (h : xf[i]? = some p := by rfl) : p.ok K = true := List.all_eq_true.mp c.all.2.2.2.2.1 p (List.mem_of_getElem? h)
theorem SaysW.def_ (c : SaysW fa pr op bn xf fn K) (i : Nat) {d : DefQ} (h : fn[i]? = some d := by rfl) : ∃ fd, FunD K d.name d.qual d.params d.body d.scope [] [] (d.ad K) fd := by
  have e : fn.map (fun d => fnQ K d) = fn.map DefQ.val := congrArg (fun z : AlQ => z.2) c
  have e2 : (fn.map fun d => fnQ K d)[i]? = (fn.map DefQ.val)[i]? := by rw [e]
  rw [List.getElem?_map, List.getElem?_map, h] at e2
  exact DefQ.funD (Option.some.inj e2) (List.all_eq_true.mp c.all.2.2.2.2.2 d (List.mem_of_getElem? h))
end
end DL
end
section
set_option maxHeartbeats 4000000
namespace DL
open PySem PySem.Spec L2
open PyProof.Rows hiding St
/-- an equation that rewriting is to take as a step of its own -/
theorem nrfl {α : Sort u} {a b : α} (h : a = b) : a = b := h
def fldM (NM : Nat → List Str) (cs : List Nat) (f : Str) (e : M D) : M D := M.bind e fun d => M.opt (fldD NM cs f d)
section
variable {X : Cx} {T : Tab} {EE : XX} {a b e o : Expr} {fl : En → M (List D)} {fb fe fo : En → M D} {pos : Pos}
def repD (l : List D) (y : D) : Option (List D) := match y with
  | .int k => if (-(2 ^ 63) ≤ k ∧ k < 2 ^ 63) ∧ l.length * k.toNat ≤ sizeLine then some (List.replicate k.toNat l).flatten else none
  | _ => none
def repL_ (a : M (List D)) (b : M D) : M (List D) := M.bind a fun l => M.bind b fun y => M.opt fun _ => repD l y
/-- l.count(x), whole numbers -/
def mCount (d : D) (ds : List D) (S : Cells) : Option (D × Cells) := match ds with
  | [.int k] => ((seqL S d).bind ints?).map fun ns => (.int (ns.count k : Nat), S)
  | _ => none
/-- isinstance(d, C), C an own class; tab tells of instances of which classes it holds -/
def isiCD (tab : List (Nat × Bool)) (d : D) (S : Cells) : Option D := match d with
  | .obj c _ => (tab.lookup c).map .bl
  | .ref n => if (seqL S (.ref n)).isSome = true then some (.bl false) else none
  | .ext (_ + 1) _ => none
  | _ => some (.bl false)
def isiCE (tab : List (Nat × Bool)) (a : M D) : M D := M.bind a fun d => M.opt (isiCD tab d)
theorem look_mem {α β : Type} [BEq α] [LawfulBEq α] {k : α} {v : β} : ∀ {l : List (α × β)}, l.lookup k = some v → (k, v) ∈ l
  | (a, b) :: r, h => by
    rw [List.lookup_cons] at h
    cases q : (k == a) with
    | true =>
      rw [q] at h
      cases h
      rw [beq_iff_eq.mp q]
      exact List.mem_cons_self
    | false =>
      rw [q] at h
      exact List.mem_cons_of_mem _ (look_mem h)
theorem ev_isiC {p : Pos} {x2 : Str} {p2 : Pos} {C : Addr} (tab : List (Nat × Bool)) (hk1 : ∀ n ∈ tyNames, PySem.W.kitOne X.K (.type n) (.ref C) = some false) (hk2 : ∀ q ∈ tab, PySem.W.kitOne X.K (.ref (T.C q.1)) (.ref C) = some q.2) (hI : ∀ q ∈ tab, InsT X.K (T.C q.1)) (hg : Gl X "isinstance") (hm : X.mg "isinstance" = none) (hv : bootBuiltins "isinstance" = some (.builtin "isinstance")) (he : EvE X T EE e fe) (hg2 : Gl X x2) (hm2 : X.mg x2 = some (.ref C))
    (hd2 : (x2 == ("__debug__" : Str)) = false := by decide)
    (hs : starEach [e, .Name x2 p2] X.env = (false, eval e X.env) :: starEach [.Name x2 p2] X.env := by rfl) (hpl : (backTo pos (starEach [.Name x2 p2] X.env)).any (·.1) = false := by rfl) (hs3 : starEach [.Name x2 p2] X.env = (false, eval (.Name x2 p2) X.env) :: starEach [] X.env := by rfl) :
    EvE X T EE (.Call (.Name "isinstance" p) [e, .Name x2 p2] [] pos) (fun ρ => isiCE tab (fe ρ)) := by
  have ha : PA X [e, .Name x2 p2] (tCons (dE X.K T EE fe) (tCons (tC (.ref C)) tNil)) := pa_cons he.pe (pa_cons (pe_glob hg2 hm2 rfl hd2) pa_nil hs3) hs
  refine ⟨(pe_callB call_isi hg hm hv ha (by decide) (by decide) hs hpl).dimp fun σ H Q h => ?_⟩
  refine (show dG X.K T EE (repE X.K T) fe σ H _ from ?_)
  obtain ⟨_, _, _, _, h1, h2, h3⟩ := bindD (rep := repE X.K T) h
  refine ⟨_, _, _, _, h1, h2, h3.imp fun v H1 ⟨d, γ1, hid, S1, ρ, q1, q3, q4, q5⟩ => ?_⟩
  obtain ⟨r, er, w5⟩ := opt_ok q5
  have plain : ∀ n, tyName d = some n → (∀ k, d = .ref k → (seqL S1 d).isSome = true) → r = .bl false → rIsi X.K [v, .ref C] H1 Q := fun n en hl er => by
    subst er
    exact ⟨v, .ref C, .type n, .ref C, false, rfl, .own C, tyX_of q1 q4 en hl, hk1 n (tyName_mem en), w5 γ1 H1 _ q1 (Ext.refl _ _ _) (.bl _)⟩
  cases d with
  | obj c l =>
    have er : (tab.lookup c).map D.bl = some r := er
    cases ek : tab.lookup c with
    | none => rw [ek] at er; cases er
    | some k =>
      rw [ek] at er
      cases er
      cases q4 with
      | @obj a' dx _ _ _ ea z b =>
        exact ⟨_, .ref C, .ref (T.C c), .ref C, k, rfl, .own C, .base (.ins (out_sub _ _ _ _ _ _ ea) (hI _ (look_mem ek)).cl (hI _ (look_mem ek)).ha (hI _ (look_mem ek)).hn (hI _ (look_mem ek)).tk (hI _ (look_mem ek)).mr), hk2 _ (look_mem ek), w5 γ1 H1 _ q1 (Ext.refl _ _ _) (.bl _)⟩
  | ref n =>
    have er : (if (seqL S1 (.ref n)).isSome = true then some (D.bl false) else none) = some r := er
    split at er
    · rename_i hz
      cases er
      exact plain _ rfl (fun k ek => by cases ek; exact hz) rfl
    · cases er
  | ext c l =>
    cases c with
    | zero => exact plain _ rfl (fun k ek => by cases ek) (by cases er; rfl)
    | succ c => exact absurd er (by intro z; cases z)
  | _ => exact plain _ rfl (fun k ek => by cases ek) (by cases er; rfl)
def par3S (i j k : Nat) (f : En → M (List D)) : SM := bindS f fun l ρ S => match l with
  | [d, e, g] => .nx (((ρ.set i (some d)).set j (some e)).set k (some g)) S
  | _ => .stuck
/-- a, b, c = x, y, z (plain local names) -/
theorem es_par3 {i j l : Nat} {x y z : Str} {a b c : Expr} {fs : En → M (List D)} {px py pz pt : Pos} {kt k2 : Nat} {pt2 : Pos} (hc : X.calm = true) (hN : X.N.Nodup) (hi : X.N[i]? = some x) (hj : X.N[j]? = some y) (hl : X.N[l]? = some z) (hij : i ≠ j) (hil : i ≠ l) (hjl : j ≠ l)
    (hx : X.env.scope.names.lookup x = some .local) (hy : X.env.scope.names.lookup y = some .local) (hz : X.env.scope.names.lookup z = some .local) (ha : EvA X T EE [a, b, c] fs)
    (hw : swappedStores [.Tuple [.Name x px, .Name y py, .Name z pz] kt pt] (.Tuple [a, b, c] k2 pt2) X.env = pure (some [x, y, z]))
    (hs : swapsWithSole [.Tuple [.Name x px, .Name y py, .Name z pz] kt pt] (.Tuple [a, b, c] k2 pt2) pos.line X.env = pure false := by rfl) :
    EvS X T EE (.Assign [.Tuple [.Name x px, .Name y py, .Name z pz] kt pt] (.Tuple [a, b, c] k2 pt2) pos) (par3S i j l fs) := by
  refine ⟨(ps_par3 hc hN hi hj hl hij hil hjl hx hy hz ha.pa hw hs).dimp fun Dn σ H h => ?_⟩
  refine (show dG X.K T EE (repA X.K T) fs σ H _ from ?_)
  obtain ⟨_, _, _, _, h1, h2, h3⟩ := bindSD (rep := repA X.K T) h
  refine ⟨_, _, _, _, h1, h2, h3.imp fun vs H1 ⟨l, γ1, hid, S1, ρ, q1, q3, q4, q5⟩ => ?_⟩
  cases q4 with
  | nil => exact q5.elim
  | cons r1 r =>
    cases r with
    | nil => exact q5.elim
    | cons r2 r =>
      cases r with
      | nil => exact q5.elim
      | cons r3 r =>
        cases r with
        | nil => exact ⟨_, _, _, rfl, q5 γ1 H1 _ q1 (Ext.refl _ _ _) (((q3.set _ r1).set _ r2).set _ r3)⟩
        | cons r4 r => exact q5.elim
end
end DL
end
section
set_option maxHeartbeats 4000000
namespace DL
open PySem PySem.Spec L2
open PyProof.Rows hiding St
def b2MT (op : D → D → M D) (a b : M D) : M Bool := M.bind a fun x => M.bind b fun y => M.bind (calmM (op x y)) fun d => M.opt fun _ => asB d
section
variable {X : Cx} {T : Tab} {EE : XX} {a b : Expr} {fa fb : En → M D} {pos : Pos}
theorem ev_cmpTM {o : CmpOp} {op : D → D → M D} (ho : OpR X (compareOp o) (rOM X.K T op)) (hm : behindInMarks o b = false) (ha : EvE X T EE a fa) (hb : EvE X T EE b fb) :
    EvT X T EE (.Compare a [o] [b] pos) (fun ρ => b2MT op (fa ρ) (fb ρ)) := by
  refine ⟨(pt_cmpR ho ha.pe hb.pe hm).dimp fun σ H Q h => ?_⟩
  refine (show dG X.K T EE (repE X.K T) fa σ H _ from ?_)
  obtain ⟨γ, hid, S, ρ, hold, env, h⟩ := h
  obtain ⟨_, _, _, _, h1, h2, h3⟩ := bindR (rep := repE X.K T) hold env h
  refine ⟨_, _, _, _, h1, h2, h3.imp fun x H1 ⟨d1, γ1, S1, q1, q2, q3, q4, q5⟩ => ?_⟩
  obtain ⟨_, _, _, _, h1, h2, h3⟩ := bindR (rep := repE X.K T) q1 q3 q5
  refine ⟨_, _, _, _, h1, h2, h3.imp fun y H2 ⟨d2, γ2, S2, w1, w2, w3, w4, w5⟩ => ?_⟩
  cases eg : op d1 d2 S2 with
  | err x S => unfold M.bind calmM at w5; rw [eg] at w5; exact w5.elim
  | stuck => unfold M.bind calmM at w5; rw [eg] at w5; exact w5.elim
  | ok d S' =>
    unfold M.bind calmM at w5
    rw [eg] at w5
    have w5 : resG X.K T EE repB γ2 hid S2 H2 ρ σ (M.opt (fun _ => asB d) S') Q := w5
    unfold M.opt at w5
    cases d with
    | bl k =>
      refine ⟨γ2, hid, S2, d1, d2, .bl k, S', w1, w2.rp q4, w4, eg, fun γ' H' v c1 c2 c3 => ?_⟩
      cases c3 with
      | bl b => exact ⟨_, rfl, w5 γ' H' _ c1 c2 rfl⟩
    | _ => exact w5.elim
end
end DL
end
section
set_option maxHeartbeats 4000000
namespace DL
open PySem PySem.Spec L2
open PyProof.Rows hiding St
def mthL_ (tn : String) (op : D → List D → Cells → Option (List D)) (a : M D) (x : M (List D)) : M (List D) := M.bind a fun d => M.bind (M.opt (isTy tn d)) fun _ => M.bind x fun ds => M.opt (op d ds)
section
variable {X : Cx} {T : Tab} {EE : XX} {o e : Expr} {es : List Expr} {fo : En → M D} {fs : En → M (List D)} {name : Str} {apos cpos : Pos} {tn id : String} {op : D → List D → Cells → Option (List D)}
/-- x.split(y) -/
def mSplit (d : D) (ds : List D) (_ : Cells) : Option (List D) := match d, ds with
  | .str a, [.str b] => if (b.length == 0) = false ∧ a.length + 2 ≤ sizeLine ∧ (Txt.split a b).length ≤ sizeLine ∧ (∀ y ∈ Txt.split a b, y.length ≤ sizeLine) then some ((Txt.split a b).map .str) else none
  | _, _ => none
def strs? : List D → Option (List Str)
  | [] => some []
  | .str i :: r => (strs? r).map (i :: ·)
  | _ => none
theorem strs?_map (ns : List Str) : strs? (ns.map .str) = some ns := by
  induction ns with
  | nil => rfl
  | cons n ns ih => rw [List.map_cons]; show (strs? _).map _ = _; rw [ih]; rfl
/-- x.join(l) -/
def mJoin (d : D) (ds : List D) (S : Cells) : Option (D × Cells) := match d, ds with
  | .str a, [y] => match (seqL S y).bind strs? with
    | some ys => if (ys.map (·.length)).sum + ys.length * a.length ≤ 16777216 ∧ (Txt.join a ys).length ≤ sizeLine then some (.str (Txt.join a ys), S) else none
    | none => none
  | _, _ => none
/-- int(text) -/
def dIntS (ds : List D) (_ : Cells) : Option D := match ds with
  | [.str a] => if a.length ≤ 640 then (intText? a).map .int else none
  | _ => none
theorem ct_intS : CallR X (.type "int") (rC X.K T dIntS) := call_int_str.dimp fun vs H Q h => by
  obtain ⟨γ, hid, S, ds, d, hold, r, e, q⟩ := h
  unfold dIntS at e
  split at e
  · rename_i a
    split at e
    · rename_i hz
      cases en : intText? a with
      | none => rw [en] at e; cases e
      | some n =>
        rw [en] at e
        cases e
        obtain ⟨v, rfl, r1⟩ := rep1 r
        cases r1
        exact ⟨a, n, rfl, en, hz, q γ H _ hold (Ext.refl _ _ _) (.int _)⟩
    · cases e
  · cases e
/-- int(x) of a text, a whole number, a truth value -/
def dIntU (ds : List D) (S : Cells) : Option D := match ds with
  | [.str a] => dIntS [.str a] S
  | ds => dInt ds S
theorem ct_intU : CallR X (.type "int") (rC X.K T dIntU) := by
  intro pins s σ H vs us Q I rv h
  obtain ⟨γ, hid, S, ds, d, hold, r, e, q⟩ := h
  unfold dIntU at e
  split at e
  · exact ct_intS (T := T) pins s σ H vs us Q I rv ⟨γ, hid, S, _, d, hold, r, e, q⟩
  · exact ct_int (T := T) pins s σ H vs us Q I rv ⟨γ, hid, S, _, d, hold, r, e, q⟩
/-- a text in a text -/
def inS (i j : Str) : Bool := !(Builtin.Str.occurrences j i 0 j.length 1).isEmpty
def dInU (d1 d2 : D) (S : Cells) : Option D := match d1, d2 with
  | .str i, .str j => some (.bl (inS i j))
  | d1, d2 => dIn d1 d2 S
def dNotInU (d1 d2 : D) (S : Cells) : Option D := match d1, d2 with
  | .str i, .str j => some (.bl (!inS i j))
  | d1, d2 => dNotIn d1 d2 S
/-- str(x) of a whole number -/
def dStr (ds : List D) (_ : Cells) : Option D := match ds with
  | [.int i] => if i.natAbs.log2 < 1920 then some (.str (toString i)) else none
  | _ => none
end
end DL
end
section
set_option maxHeartbeats 4000000
namespace DL
open PySem PySem.Spec L2
open PyProof.Rows hiding St
section
variable {P : Program} {w : World} {K : PySem.W.Frag} {mg : Str → Option Value} {base : Heap} {T : Tab}
end
section
variable {X : Cx} {T : Tab}
def dAddI (d1 d2 : D) (_ : Cells) : Option D := match d1, d2 with
  | .int i, .int j => some (.int (i + j))
  | _, _ => none
/-- a list or a tuple -/
def seqLT (S : Cells) (d : D) : Option (List D) := match d with
  | .tup l => some l
  | d => seqL S d
def mExtend (d : D) (ds : List D) (S : Cells) : Option (D × Cells) := match ds, liveL d S with
  | [x], some (n, l) => match seqLT S x with
    | some m => if flatL m = true ∧ l.length + m.length ≤ sizeLine then some (.non, S.set n ⟨true, .lst (l ++ m)⟩) else none
    | none => none
  | _, _ => none
def dDivmod (ds : List D) (_ : Cells) : Option D := match ds with
  | [.int i, .int j] => if 0 < j ∧ j.natAbs.log2 < 9000 then some (.tup [.int (i / j), .int (i % j)]) else none
  | _ => none
end
section
variable {X : Cx} {T : Tab} {j k c : Nat} {g : List D → M D} {fa : Addr} {fd : FuncData} {ps : List Str}
/-- what != asks of a class with an own == alone -/
structure NeF (K : PySem.W.Frag) (C : Addr) : Prop where
  ne : PySem.W.findIn K (.ref C) "__ne__" = some (some (.builtin "object.__ne__"))
  mro : PySem.W.mroIn K C (.type "object") = some true
theorem ne_ok {K : PySem.W.Frag} {c : Str} (h : (XF.ne c).ok K = true) : NeF K (He.ga K c) := by
  unfold XF.ok at h
  simp only [Bool.and_eq_true, decide_eq_true_eq] at h
  exact ⟨He.eqO_ok h.1, h.2⟩
theorem ifBound_ne {M : Model} {A : Around} {E : Value → Shared → Prop} {s : Shared} {K : PySem.W.Frag} {x C : Addr} {ox : Obj} {od : Option Obj} {args : List Value} {Q : Option Value → Shared → Prop} (X : K.In s.heap) (I : PySem.W.InstAt s.heap x ox C od) (hs : PySem.W.findIn K (.ref C) "__ne__" = some (some (.builtin "object.__ne__")))
    (h : wpAny M A (call (.builtin "object.__ne__") (.ref x :: args)) (fun v => Q (some v)) E s) : wpAny M A (callSpecialIfBound? (.ref x) "__ne__" args) Q E s := by
  simp only [callSpecialIfBound?, bindSpecialIfBound?]
  refine wpAny_holding (wpAny_bind (wpAny_bind (wpAny_bind (I.type.here ((PySem.W.looks_findIn X hs).here ?_)))))
  refine wpAny_bind (wpAny_askSetting (wpAny_ite ?_))
  have fin : wpAny M A (call (.builtin "object.__ne__") ([.ref x] ++ args) >>= fun v => pure (some v)) Q E s := wpAny_bind (wpAny_mono h (fun v s' h' => wpAny_pure h') fun _ _ h' => h')
  split
  · exact wpAny_bind (wpAny_of_eq (F.cmp_object.ne.bind _) (wpAny_pure (by exact fin)))
  · exact wpAny_tryCatch (wpAny_bind (wpAny_of_eq (F.cmp_object.ne.bind _) (wpAny_pure (by exact fin))))
open Builtin in
/-- the def behind == gives a truth value, under the call of object.__ne__ -/
theorem call_ne {prog : Program} {w : World} {A : Around} {E : Value → Shared → Prop} {s : Shared} {K : PySem.W.Frag} {x C f : Addr} {ox : Obj} {od : Option Obj} {b : Value} {Q : Value → Shared → Prop} (hu : A.in1.units < cLine) (X : K.In s.heap) (I : PySem.W.InstAt s.heap x ox C od) (hm : PySem.W.mroIn K C (.type "object") = some true)
    (hs : PySem.W.findIn K (.ref C) "__eq__" = some (some (.ref f))) (hf : PySem.W.isFn K (.ref f) = true)
    (h : wpAny (model prog w) A.in1 (call (.ref f) [.ref x, b]) (fun v s' => ∃ k, v = .bool k ∧ Q (.bool (!k)) s') E s) : wpAny (model prog w) A (call (.builtin "object.__ne__") [.ref x, b]) Q E s := by
  refine wpAny_call (codeAny_call_builtin F.cmp_object.ne.plain F.cmpEntry_ne (PySem.W.check_slot F.cmpKind_ne F.cmpSplit_ne (I.type.andThen (PySem.W.looks_mroIn X hm)) (F.cmpArgs_ne _ _) ?_))
  unfold Builtin.«object.__ne__»
  refine wpAny_bind (m := slotArgs "__ne__" 1 _) (wpAny_pure ?_)
  refine wpAny_bind (m := cRoomFor _ _) (wpAny_cRoomFor hu ?_)
  refine wpAny_bind (m := callSpecialIfBound? (.ref x) (Str.ofString "__eq__") _) (PySem.W.ifBound_K X I hs hf (wpAny_mono h (fun r s' hq => ?_) fun _ _ y => y))
  obtain ⟨k, rfl, hq⟩ := hq
  refine wpAny_bind (wpAny_truthy_bool ?_)
  exact wpAny_pure hq
/-- a != b by a's own == -/
def neOwn (c : Nat) (g : List D → M D) (d1 d2 : D) : M D := M.bind (eqOwn c g d1 d2) fun d => match d with
  | .bl b => kon (.bl (!b))
  | _ => stuck
theorem op_neOwn (hs : PySem.W.findIn X.K (.ref (T.C c)) "__eq__" = some (some (.ref fa))) (hf : PySem.W.isFn X.K (.ref fa) = true) (hn0 : ∀ n ∈ tyNames, PySem.W.notFirst X.K (T.C c) (.type n) = true) (hN : NeF X.K (T.C c))
    (F : FnG X.prog X.w X.K X.mg X.base k fa fd ps (spD X.K T 2 g)) (hr : Room (k + 1) X.A) (nr : NoRepr X.A) (hb : Binds X.K fd ps []) : OpR X (compareOp .NotEq) (rOM X.K T (neOwn c g)) := by
  intro pins s σ H x y v u Q I rx ry h
  obtain ⟨γ, hid, S, d1, d2, d0, S0, hold, r1, r2, e0, q0⟩ := h
  obtain ⟨d, S', e, e0⟩ : ∃ d S', eqOwn c g d1 d2 S = .ok d S' ∧ (match d with
      | .bl b => kon (.bl (!b))
      | _ => stuck : M D) S' = .ok d0 S0 := by
    unfold neOwn M.bind at e0
    cases q : eqOwn c g d1 d2 S with
    | ok d S' => rw [q] at e0; exact ⟨d, S', rfl, e0⟩
    | err x S' => rw [q] at e0; cases e0
    | stuck => rw [q] at e0; cases e0
  unfold eqOwn at e
  split at e
  · rename_i c' l
    split at e
    · rename_i hc
      subst hc
      split at e
      · rename_i b S2 eg
        have hd : d = .bl b ∧ S' = S2 := by
          split at e
          · cases e
          · cases e; exact ⟨rfl, rfl⟩
          · split at e
            · cases e; exact ⟨rfl, rfl⟩
            · cases e
          · cases e
        obtain ⟨rfl, rfl⟩ := hd
        have e0 : kon (.bl (!b)) S' = .ok d0 S0 := e0
        cases e0
        cases r1 with
        | @obj p dx _ _ _ a z w =>
          obtain rfl : v = Value.ref p := rx
          obtain ⟨mA, ob, _, _, _, _⟩ := ins_get I.hok (out_sub _ _ _ _ _ _ a)
          obtain ⟨od, at1, _⟩ := ob.look
          obtain ⟨m, fr⟩ := I.fr
          have sp : spD X.K T 2 g [.ref p, y] H (fun w H' => w = .bl b ∧ Q (.bl (!b)) H') E0 := ⟨γ, hid, S, [.obj c' l, d2], hold, .cons (.obj a z w) (.cons r2 .nil), rfl, _, _, eg, fun γ' H' v' b1 b2 b3 => by
              cases b3
              exact ⟨rfl, q0 γ' H' _ b1 b2 (.bl _)⟩⟩
          have run : wpAny (model X.prog X.w) X.A.in1 (call (.ref fa) [.ref p, u]) (fun t s2 => ∃ k, t = .bool k ∧ EP X pins σ Q (.bool (!k)) s2) X.xe s := by
            have hl : ([Value.ref p, u]).length = ps.length := by
              have r3 : Vals [V.ref p, y] [Value.ref p, u] := .cons rfl (.cons ry .nil)
              rw [← r3.length]
              exact F.len _ _ _ _ sp
            have bd := hb s [.ref p, u] I.kIn (by rw [List.append_nil]; exact hl)
            rw [List.append_nil] at bd
            refine wpAny_call (codeAny_mono (F.run X.A.in1 X.stack s H ⟨[.ref p, u], []⟩ [.ref p, u] [.ref p, y] _ E0 hr.in1 nr I.env0.in1 bd (.cons rfl (.cons ry .nil)) sp) fun res t q => ?_)
            cases res with
            | error er => exact False.elim q
            | ok flow =>
              cases flow with
              | ret u =>
                obtain ⟨v', H2, I3, rv, rfl, q3⟩ := I.after q
                obtain rfl : u = Value.bool b := rv
                exact ⟨b, rfl, .bl (!b), H2, I3, rfl, q3⟩
              | next => exact False.elim q
              | brk => exact False.elim q
              | cont => exact False.elim q
          have hty : ∃ tb, PySem.W.Looks (model X.prog X.w) s.heap (typeOf u) tb ∧ PySem.W.notFirst X.K (T.C c') tb = true := by
            split at e
            · cases e
            · rename_i hnr en
              obtain ⟨P, Z, hP⟩ := kit_of I ry (tyX_of hold r2 en fun k hk => absurd hk (hnr k))
              exact ⟨_, Z.ty _ _ I.kIn hP.1, hn0 _ (tyName_mem en)⟩
            · split at e
              · rename_i hc2
                subst hc2
                cases r2 with
                | obj a2 z2 w2 =>
                  obtain rfl : u = Value.ref _ := ry
                  obtain ⟨mB, ob2, _, _, _, _⟩ := ins_get I.hok (out_sub _ _ _ _ _ _ a2)
                  obtain ⟨od2, at2, _⟩ := ob2.look
                  exact ⟨_, at2.type, by unfold PySem.W.notFirst; simp⟩
              · cases e
            · cases e
          obtain ⟨tb, lk, nf⟩ := hty
          have hu0 : X.A.units < cLine := hr.units0
          have hu1 : X.A.in1.units < cLine := by have := hr.units; show X.A.units + 1 < cLine; omega
          have kin := I.kIn
          have one : wpAny (model X.prog X.w) X.A (tryCompare (.ref p) "__ne__" u) (fun r s' => ∃ v, r = some v ∧ EP X pins σ Q v s') X.xe s := by
            unfold tryCompare
            refine wpAny_bind (ifBound_ne kin at1 hN.ne (call_ne hu1 kin at1 hN.mro hs hf (wpAny_mono run (fun t s2 z => ?_) fun _ _ z => z)))
            obtain ⟨k, rfl, z⟩ := z
            exact ⟨k, rfl, wpAny_pure ⟨_, rfl, z⟩⟩
          show wpAny (model X.prog X.w) X.A (richCompare .NotEq (.ref p) u) (EP X pins σ Q) X.xe s
          unfold richCompare
          simp only [oneThing_ref, cmpInfo_NotEq]
          refine wpAny_holding (wpAny_bind (wpAny_cRoomFor hu0 ?_))
          refine wpAny_bind (at1.type.here (wpAny_bind (lk.here ?_)))
          split
          · rename_i q
            have e : PySem.W.subIn X.K tb (.ref (T.C c')) = some false := by
              rcases Bool.or_eq_true_iff.mp nf with e | e
              · rw [beq_iff_eq.mp e] at q; simp at q
              · exact beq_iff_eq.mp e
            refine wpAny_bind ((PySem.W.looks_subIn kin e).here ?_)
            simp only [Bool.false_eq_true, if_false]
            refine wpAny_bind (wpAny_mono one (fun r s' z => ?_) fun _ _ e => e)
            obtain ⟨v, rfl, hq⟩ := z
            exact wpAny_pure hq
          · refine wpAny_bind (wpAny_pure ?_)
            simp only [Bool.false_eq_true, if_false]
            refine wpAny_bind (wpAny_mono one (fun r s' z => ?_) fun _ _ e => e)
            obtain ⟨v, rfl, hq⟩ := z
            exact wpAny_pure hq
      · cases e
    · cases e
  · cases e
theorem op_neA (F : FnA X.prog X.w X.K X.mg X.base j fa ps (spD X.K T 2 g)) (hr : Room k X.A) (hj : j + 1 ≤ k) (nr : NoRepr X.A) (h : OwnF X.K (T.C c) fa "__eq__") (hN : NeF X.K (T.C c)) : OpR X (compareOp .NotEq) (rOM X.K T (neOwn c g)) :=
  let ⟨_, F, b⟩ := F
  op_neOwn h.at_ h.fn h.nf hN F (hr.mono hj) nr b
end
end DL
end
section
set_option maxHeartbeats 400000
namespace DL
open PySem PySem.Spec L2
open PyProof.Rows hiding St
section
variable {K : PySem.W.Frag} {T : Tab} {γ : List Addr} {F : Hp}
end
section
variable {X : Cx} {T : Tab} {EE : XX} {a b : Expr} {fs : En → M (List D)} {p pos tpos : Pos} {elts : List Expr} {kk : Nat}
end
end DL
end
section
set_option maxHeartbeats 4000000
namespace DL
open PySem PySem.Spec L2
open PyProof.Rows hiding St
section
variable {X : Cx} {T : Tab}
end
end DL
end
section
set_option maxHeartbeats 4000000
namespace DL
open PySem PySem.Spec L2
open PyProof.Rows hiding St
section
variable {p p1 : Pat} {ft ft1 : En → M Bool} {fi1 : En → M (List D)} {fe : En → M D} {vs1 : List Nat} {ρ : En}
end
section
variable {K : PySem.W.Frag} {T : Tab} {EE : XX}
end
section
variable {X : Cx} {T : Tab} {EE : XX}
end
end DL
end
section
set_option maxHeartbeats 4000000
namespace DL
open PySem PySem.Spec L2
open PyProof.Rows hiding St
section
variable {X : Cx} {T : Tab}
end
end DL
end
section
set_option maxHeartbeats 4000000
namespace DL
open PySem PySem.Spec L2
open PyProof.Rows hiding St
section
variable {α β γ : Type}
def U.wp (r : DL.R α) (Q : α → Cells → Prop) (E : Xc → Cells → Prop) : Prop := match r with
  | .ok a S => Q a S
  | .err x S => E x S
  | .stuck => False
def U.wpo (o : Option α) (S : Cells) (Q : α → Cells → Prop) : Prop := match o with
  | some a => Q a S
  | none => False
def U.wpc (o : Option (α × Cells)) (Q : α → Cells → Prop) : Prop := match o with
  | some (a, S) => Q a S
  | none => False
def U.wif (b : Bool) (A B : Prop) : Prop := (b = true → A) ∧ (b = false → B)
def U.wo (o : Out) (N : En → Cells → Prop) (Rt : D → Cells → Prop) (E : Xc → En → Cells → Prop) : Prop := match o with
  | .nx ρ S => N ρ S
  | .rt d S => Rt d S
  | .er x ρ S => E x ρ S
  | _ => False
abbrev noE : Xc → Cells → Prop := fun _ _ => False
theorem U.wp_ok {r : DL.R α} {a : α} {S : Cells} (h : U.wp r (fun b T => b = a ∧ T = S) noE) : r = .ok a S := by
  cases r with
  | ok b T => obtain ⟨rfl, rfl⟩ := h; rfl
  | err x T => exact h.elim
  | stuck => exact h.elim
theorem U.wp_of {r : DL.R α} {a : α} {S : Cells} {Q : α → Cells → Prop} {E : Xc → Cells → Prop} (e : r = .ok a S) (h : Q a S) : U.wp r Q E := by rw [e]; exact h
theorem U.wp_mono {r : DL.R α} {Q Q' : α → Cells → Prop} {E E' : Xc → Cells → Prop} (h : U.wp r Q E) (hq : ∀ a S, Q a S → Q' a S) (he : ∀ x S, E x S → E' x S) : U.wp r Q' E' := by
  cases r with
  | ok b T => exact hq _ _ h
  | err x T => exact he _ _ h
  | stuck => exact h.elim
theorem U.wp_ex {r : DL.R α} {Q : α → Cells → Prop} (h : U.wp r Q noE) : ∃ a S, r = .ok a S ∧ Q a S := by
  cases r with
  | ok b T => exact ⟨b, T, rfl, h⟩
  | err x T => exact h.elim
  | stuck => exact h.elim
theorem U.wo_mono {o : Out} {N N' : En → Cells → Prop} {R R' : D → Cells → Prop} {E E' : Xc → En → Cells → Prop} (h : U.wo o N R E) (hn : ∀ ρ S, N ρ S → N' ρ S) (hr : ∀ d S, R d S → R' d S) (he : ∀ x ρ S, E x ρ S → E' x ρ S) : U.wo o N' R' E' := by
  cases o with
  | nx ρ S => exact hn _ _ h
  | rt d S => exact hr _ _ h
  | er x ρ S => exact he _ _ _ h
  | bk _ _ => exact h.elim
  | ct _ _ => exact h.elim
  | stuck => exact h.elim
section
variable {a b c : M D} {S : Cells} {ρ : En} {Q : D → Cells → Prop} {QL : List D → Cells → Prop} {QB : Bool → Cells → Prop} {E : Xc → Cells → Prop}
theorem U.w_ok {a : α} {Q : α → Cells → Prop} : U.wp (.ok a S) Q E = Q a S := nrfl rfl
theorem U.w_some {a : α} {Q : α → Cells → Prop} : U.wpo (some a) S Q = Q a S := nrfl rfl
theorem U.w_somec {a : α} {Q : α → Cells → Prop} : U.wpc (some (a, S)) Q = Q a S := nrfl rfl
theorem U.w_bind {f : M α} {g : α → M β} {Q : β → Cells → Prop} : U.wp (M.bind f g S) Q E = U.wp (f S) (fun a S => U.wp (g a S) Q E) E := by
  unfold M.bind
  cases f S <;> rfl
theorem U.w_opt {f : Cells → Option α} {Q : α → Cells → Prop} : U.wp (M.opt f S) Q E = U.wpo (f S) S Q := by
  unfold M.opt
  cases f S <;> rfl
theorem U.w_chg {f : Cells → Option (α × Cells)} {Q : α → Cells → Prop} : U.wp (M.chg f S) Q E = U.wpc (f S) Q := by
  unfold M.chg
  cases f S <;> rfl
theorem U.w_kon {d : D} : U.wp (kon d S) Q E = Q d S := nrfl rfl
theorem U.w_calm {f : M α} {Q : α → Cells → Prop} : U.wp (calmM f S) Q E = U.wp (f S) Q noE := by
  unfold calmM
  cases f S <;> rfl
theorem U.w_b2 {op : D → D → Cells → Option D} : U.wp (b2 op a b S) Q E = U.wp (a S) (fun x S => U.wp (b S) (fun y S => U.wpo (op x y S) S Q) E) E := by
  unfold b2
  simp only [U.w_bind, U.w_opt]
theorem U.w_b2L {op : D → D → Cells → Option (List D)} : U.wp (b2L op a b S) QL E = U.wp (a S) (fun x S => U.wp (b S) (fun y S => U.wpo (op x y S) S QL) E) E := by
  unfold b2L
  simp only [U.w_bind, U.w_opt]
theorem U.w_b1 {op : D → Cells → Option D} : U.wp (b1 op a S) Q E = U.wp (a S) (fun x S => U.wpo (op x S) S Q) E := by
  unfold b1
  simp only [U.w_bind, U.w_opt]
/-- a truth value is wanted -/
def wB (Q : Bool → Cells → Prop) (d : D) (S : Cells) : Prop := match d with
  | .bl b => Q b S
  | _ => False
theorem wB_bl {k : Bool} : wB QB (.bl k) S = QB k S := nrfl rfl
theorem U.w_asB {d : D} : U.wpo (asB d) S QB = wB QB d S := by cases d <;> rfl
theorem U.w_b2T {op : D → D → Cells → Option D} : U.wp (b2T op a b S) QB E = U.wp (a S) (fun x S => U.wp (b S) (fun y S => U.wpo (op x y S) S (wB QB)) E) E := by
  unfold b2T
  simp only [U.w_bind, U.w_opt]
  congr 1
  funext x S
  congr 1
  funext y S
  cases op x y S with
  | none => rfl
  | some d => exact U.w_asB
theorem U.w_if {k : Bool} {x y : M α} {Q : α → Cells → Prop} : U.wp ((if k = true then x else y) S) Q E = U.wif k (U.wp (x S) Q E) (U.wp (y S) Q E) := by
  cases k <;> simp [U.wif]
theorem U.w_chE {op op' : D → D → Cells → Option D} : U.wp (chE op op' a b c S) Q E = U.wp (a S) (fun x S => U.wp (b S) (fun y S => U.wpo (op x y S) S (wB fun k S => U.wif k (U.wp (c S) (fun z S => U.wpo (op' y z S) S Q) E) (Q (.bl false) S))) E) E := by
  unfold chE
  simp only [U.w_bind, U.w_opt]
  congr 1
  funext x S
  congr 1
  funext y S
  cases op x y S with
  | none => rfl
  | some d =>
    cases d with
    | bl k =>
      show U.wp ((if k = true then M.bind c fun z => M.opt (op' y z) else kon (D.bl false)) S) Q E = U.wif k _ _
      rw [U.w_if]
      simp only [U.w_bind, U.w_opt]
      rfl
    | _ => rfl
theorem U.w_chT {op op' : D → D → Cells → Option D} : U.wp (chT op op' a b c S) QB E = U.wp (chE op op' a b c S) (wB QB) E := by
  unfold chT
  simp only [U.w_bind, U.w_opt, U.w_asB]
theorem U.w_not {x : M Bool} : U.wp (notT x S) QB E = U.wp (x S) (fun c S => QB (!c) S) E := by
  unfold notT
  rw [U.w_bind]
  rfl
theorem U.w_val : U.wp (valT a S) QB E = U.wp (a S) (fun d S => U.wpo (truD d S) S QB) E := by
  unfold valT
  simp only [U.w_bind, U.w_opt]
theorem U.w_notE : U.wp (notE a S) Q E = U.wp (a S) (wB fun c S => Q (.bl (!c)) S) E := by
  unfold notE
  simp only [U.w_bind, U.w_opt, U.w_asB]
  rfl
theorem U.w_ifE {k : M Bool} : U.wp (ifE k a b S) Q E = U.wp (k S) (fun k S => U.wif k (U.wp (a S) Q E) (U.wp (b S) Q E)) E := by
  unfold ifE
  simp only [U.w_bind, U.w_if]
theorem U.w_ifL {k : M Bool} {x y : M (List D)} : U.wp (ifL k x y S) QL E = U.wp (k S) (fun k S => U.wif k (U.wp (x S) QL E) (U.wp (y S) QL E)) E := by
  unfold ifL
  simp only [U.w_bind, U.w_if]
theorem U.w_andM {x y : M Bool} : U.wp (andM x y S) QB E = U.wp (x S) (fun k S => U.wif k (U.wp (y S) QB E) (QB false S)) E := by
  unfold andM
  simp only [U.w_bind, U.w_if]
  rfl
theorem U.w_orM {x y : M Bool} : U.wp (orM x y S) QB E = U.wp (x S) (fun k S => U.wif k (QB true S) (U.wp (y S) QB E)) E := by
  unfold orM
  simp only [U.w_bind, U.w_if]
  rfl
theorem U.w_andE : U.wp (andE a b S) Q E = U.wp (a S) (wB fun k S => U.wif k (U.wp (b S) Q E) (Q (.bl false) S)) E := by
  unfold andE
  simp only [U.w_bind, U.w_opt, U.w_asB, U.w_if]
  rfl
theorem U.w_orE : U.wp (orE a b S) Q E = U.wp (a S) (wB fun k S => U.wif k (Q (.bl true) S) (U.wp (b S) Q E)) E := by
  unfold orE
  simp only [U.w_bind, U.w_opt, U.w_asB, U.w_if]
  rfl
theorem U.w_nil : U.wp (nilA S) QL E = QL [] S := nrfl rfl
theorem U.w_cons {x : M D} {y : M (List D)} : U.wp (consM x y S) QL E = U.wp (x S) (fun d S => U.wp (y S) (fun l S => QL (d :: l) S) E) E := by
  unfold consM
  simp only [U.w_bind]
  rfl
/-- few items -/
def few (l : List D) : Prop := l.length ≤ sizeLine
theorem U.w_tup {x : M (List D)} : U.wp (tupE x S) Q E = U.wp (x S) (fun l S => few l ∧ Q (.tup l) S) E := by
  unfold tupE
  simp only [U.w_bind, U.w_opt]
  congr 1
  funext l S
  by_cases h : l.length ≤ sizeLine
  · rw [if_pos h]; exact propext ⟨fun q => ⟨h, q⟩, fun q => q.2⟩
  · rw [if_neg h]; exact propext ⟨fun q => q.elim, fun q => absurd q.1 h⟩
theorem U.w_lst {x : M (List D)} : U.wp (lstE x S) QL E = U.wp (x S) (fun l S => few l ∧ QL l S) E := by
  unfold lstE
  simp only [U.w_bind, U.w_opt]
  congr 1
  funext l S
  by_cases h : l.length ≤ sizeLine
  · rw [if_pos h]; exact propext ⟨fun q => ⟨h, q⟩, fun q => q.2⟩
  · rw [if_neg h]; exact propext ⟨fun q => q.elim, fun q => absurd q.1 h⟩
theorem few0 : few [] := Nat.zero_le _
theorem few1 {x1 : D} : few [x1] := show 1 ≤ sizeLine by decide
theorem few2 {x1 x2 : D} : few [x1, x2] := show 2 ≤ sizeLine by decide
theorem few3 {x1 x2 x3 : D} : few [x1, x2, x3] := show 3 ≤ sizeLine by decide
theorem few4 {x1 x2 x3 x4 : D} : few [x1, x2, x3, x4] := show 4 ≤ sizeLine by decide
theorem few5 {x1 x2 x3 x4 x5 : D} : few [x1, x2, x3, x4, x5] := show 5 ≤ sizeLine by decide
theorem few6 {x1 x2 x3 x4 x5 x6 : D} : few [x1, x2, x3, x4, x5, x6] := show 6 ≤ sizeLine by decide
theorem few7 {x1 x2 x3 x4 x5 x6 x7 : D} : few [x1, x2, x3, x4, x5, x6, x7] := show 7 ≤ sizeLine by decide
theorem few8 {x1 x2 x3 x4 x5 x6 x7 x8 : D} : few [x1, x2, x3, x4, x5, x6, x7, x8] := show 8 ≤ sizeLine by decide
theorem few9 {x1 x2 x3 x4 x5 x6 x7 x8 x9 : D} : few [x1, x2, x3, x4, x5, x6, x7, x8, x9] := show 9 ≤ sizeLine by decide
theorem few10 {x1 x2 x3 x4 x5 x6 x7 x8 x9 x10 : D} : few [x1, x2, x3, x4, x5, x6, x7, x8, x9, x10] := show 10 ≤ sizeLine by decide
theorem U.w_frz {x : M (List D)} : U.wp (frzE x S) Q E = U.wp (x S) (fun l S => Q (.lst l) S) E := by
  unfold frzE
  simp only [U.w_bind]
  rfl
theorem U.w_new {l : List D} : U.wp (newC l S) Q E = (flatL l = true ∧ Q (.ref S.length) (S ++ [⟨true, .lst l⟩])) := by
  unfold newC M.chg
  by_cases h : flatL l = true
  · simp only [if_pos h]; exact propext ⟨fun q => ⟨h, q⟩, fun q => q.2⟩
  · simp only [if_neg h]; exact propext ⟨fun q => q.elim, fun q => absurd q.1 h⟩
theorem U.w_cel {x : M (List D)} : U.wp (celE x S) Q E = U.wp (x S) (fun l S => flatL l = true ∧ Q (.ref S.length) (S ++ [⟨true, .lst l⟩])) E := by
  unfold celE
  simp only [U.w_bind, U.w_new]
theorem U.w_cb {op : List D → Cells → Option D} {x : M (List D)} : U.wp (cbE op x S) Q E = U.wp (x S) (fun l S => U.wpo (op l S) S Q) E := by
  unfold cbE
  simp only [U.w_bind, U.w_opt]
theorem U.w_cbL {op : List D → Cells → Option (List D)} {x : M (List D)} : U.wp (cbL op x S) QL E = U.wp (x S) (fun l S => U.wpo (op l S) S QL) E := by
  unfold cbL
  simp only [U.w_bind, U.w_opt]
/-- a def with n arguments -/
theorem U.w_ar {n : Nat} {g : List D → M α} {l : List D} {Q : α → Cells → Prop} (h : l.length = n) : U.wp (arity n g l S) Q E = U.wp (g l S) Q E := by
  unfold arity
  rw [if_pos h]
theorem U.w_call {n : Nat} {g : List D → M D} {x : M (List D)} : U.wp (callE n g x S) Q E = U.wp (x S) (fun l S => U.wp (arity n g l S) Q noE) E := by
  unfold callE
  simp only [U.w_bind, U.w_calm]
theorem U.w_callL {n : Nat} {g : List D → M (List D)} {x : M (List D)} : U.wp (callL n g x S) QL E = U.wp (x S) (fun l S => U.wp (arity n g l S) QL noE) E := by
  unfold callL
  simp only [U.w_bind, U.w_calm]
theorem U.w_ar0 {g : List D → M α} {Q : α → Cells → Prop} : U.wp (arity 0 g [] S) Q E = U.wp (g [] S) Q E := U.w_ar rfl
theorem U.w_ar1 {g : List D → M α} {Q : α → Cells → Prop} {x1 : D} : U.wp (arity 1 g [x1] S) Q E = U.wp (g [x1] S) Q E := U.w_ar rfl
theorem U.w_ar2 {g : List D → M α} {Q : α → Cells → Prop} {x1 x2 : D} : U.wp (arity 2 g [x1, x2] S) Q E = U.wp (g [x1, x2] S) Q E := U.w_ar rfl
theorem U.w_ar3 {g : List D → M α} {Q : α → Cells → Prop} {x1 x2 x3 : D} : U.wp (arity 3 g [x1, x2, x3] S) Q E = U.wp (g [x1, x2, x3] S) Q E := U.w_ar rfl
theorem U.w_ar4 {g : List D → M α} {Q : α → Cells → Prop} {x1 x2 x3 x4 : D} : U.wp (arity 4 g [x1, x2, x3, x4] S) Q E = U.wp (g [x1, x2, x3, x4] S) Q E := U.w_ar rfl
theorem U.w_ar5 {g : List D → M α} {Q : α → Cells → Prop} {x1 x2 x3 x4 x5 : D} : U.wp (arity 5 g [x1, x2, x3, x4, x5] S) Q E = U.wp (g [x1, x2, x3, x4, x5] S) Q E := U.w_ar rfl
theorem U.w_ar6 {g : List D → M α} {Q : α → Cells → Prop} {x1 x2 x3 x4 x5 x6 : D} : U.wp (arity 6 g [x1, x2, x3, x4, x5, x6] S) Q E = U.wp (g [x1, x2, x3, x4, x5, x6] S) Q E := U.w_ar rfl
variable {QO : Option Int → Cells → Prop}
theorem U.w_noO : U.wp (noO S) QO E = QO none S := nrfl rfl
theorem U.w_smO : U.wp (smO a S) QO E = U.wp (a S) (fun d S => U.wpo (partD d) S QO) E := by
  unfold smO
  simp only [U.w_bind, U.w_opt]
theorem U.w_sl {i j : M (Option Int)} : U.wp (slE a i j S) Q E = U.wp (a S) (fun d S => U.wp (i S) (fun i S => U.wp (j S) (fun j S => U.wpo (slD d i j S) S Q) E) E) E := by
  unfold slE
  simp only [U.w_bind, U.w_opt]
theorem U.w_slL {i j : M (Option Int)} : U.wp (slLL a i j S) QL E = U.wp (a S) (fun d S => U.wp (i S) (fun i S => U.wp (j S) (fun j S => U.wpo (slL d i j S) S QL) E) E) E := by
  unfold slLL
  simp only [U.w_bind, U.w_opt]
theorem U.w_rev : U.wp (revL a S) QL E = U.wp (a S) (fun d S => U.wpo ((seqL S d).map List.reverse) S QL) E := by
  unfold revL
  simp only [U.w_bind, U.w_opt]
theorem U.w_step : U.wp (stepL a b S) QL E = U.wp (a S) (fun d S => U.wp (b S) (fun y S => U.wpo (sliceStepD d y S) S QL) E) E := by
  unfold stepL
  simp only [U.w_bind, U.w_opt]
theorem U.w_isi {tab : String → Bool} : U.wp (isiE tab a S) Q E = U.wp (a S) (fun d S => U.wpo (isiD tab d S) S Q) E := by
  unfold isiE
  simp only [U.w_bind, U.w_opt]
theorem U.w_sets : U.wp (setsL a S) QL E = U.wp (a S) (fun d S => U.wpo (setSortD d S) S QL) E := by
  unfold setsL
  simp only [U.w_bind, U.w_opt]
theorem U.w_lrg {x : M (List D)} : U.wp (lrgL x S) QL E = U.wp (x S) (fun l S => U.wpo (rangeA l) S QL) E := by
  unfold lrgL
  simp only [U.w_bind, U.w_opt]
theorem U.w_mth {tn : String} {op : D → List D → Cells → Option (D × Cells)} {x : M (List D)} : U.wp (mthE tn op a x S) Q E = U.wp (a S) (fun d S => U.wpo (isTy tn d S) S fun _ S => U.wp (x S) (fun l S => U.wpc (op d l S) Q) E) E := by
  unfold mthE
  simp only [U.w_bind, U.w_opt, U.w_chg]
theorem U.w_mth0 {tn : String} {op : D → List D → Cells → Option (D × Cells)} : U.wp (mth0 tn op a S) Q E = U.wp (a S) (fun d S => U.wpo (isTy tn d S) S fun _ S => U.wpc (op d [] S) Q) E := by
  unfold mth0
  simp only [U.w_bind, U.w_opt, U.w_chg]
theorem U.w_itS : U.wp (itS a S) QL E = U.wp (a S) (fun d S => U.wpo (itemsD d) S QL) E := by
  unfold itS
  simp only [U.w_bind, U.w_opt]
theorem U.w_itR1 {x : M (List D)} : U.wp (itR1 x S) QL E = U.wp (x S) (fun l S => U.wpo (range1 l) S QL) E := by
  unfold itR1
  simp only [U.w_bind, U.w_opt]
theorem U.w_itR2 {x : M (List D)} : U.wp (itR2 x S) QL E = U.wp (x S) (fun l S => U.wpo (range2 l) S QL) E := by
  unfold itR2
  simp only [U.w_bind, U.w_opt]
theorem U.w_itR3 {x : M (List D)} : U.wp (itR3 x S) QL E = U.wp (x S) (fun l S => U.wpo (range3 l) S QL) E := by
  unfold itR3
  simp only [U.w_bind, U.w_opt]
theorem U.w_itZ {x : M (List D)} : U.wp (itZ x S) QL E = U.wp (x S) (fun l S => U.wpo (zipA l) S QL) E := by
  unfold itZ
  simp only [U.w_bind, U.w_opt]
theorem U.w_itN {x : M (List D)} : U.wp (itN x S) QL E = U.wp (x S) (fun l S => U.wpo (enumA l) S QL) E := by
  unfold itN
  simp only [U.w_bind, U.w_opt]
theorem U.w_lc {i : M (List D)} {p : Pat} {t : En → M Bool} {e : En → M D} {vs : List Nat} : U.wp (lcL i p t e ρ vs S) QL E = U.wp (i S) (fun items S => U.wp (compD p t e (wipeD ρ vs) items S) QL E) E := by
  unfold lcL
  simp only [U.w_bind]
end
section
variable {S : Cells} {ρ : En} {N : En → Cells → Prop} {Rt : D → Cells → Prop} {E : Xc → En → Cells → Prop} {F G : SM} {f fo fi : En → M D}
theorem U.w_nx : U.wo (.nx ρ S) N Rt E = N ρ S := nrfl rfl
theorem U.w_rt {d : D} : U.wo (.rt d S) N Rt E = Rt d S := nrfl rfl
theorem U.w_seq : U.wo (seqS F G ρ S) N Rt E = U.wo (F ρ S) (fun ρ S => U.wo (G ρ S) N Rt E) Rt E := by
  unfold seqS
  cases F ρ S <;> rfl
theorem U.w_bS {f : En → M α} {g : α → SM} : U.wo (bindS f g ρ S) N Rt E = U.wp (f ρ S) (fun a S => U.wo (g a ρ S) N Rt E) (fun x S => E x ρ S) := by
  unfold bindS
  cases f ρ S <;> rfl
theorem U.w_set {i : Nat} : U.wo (setS i f ρ S) N Rt E = U.wp (f ρ S) (fun d S => N (ρ.set i (some d)) S) (fun x S => E x ρ S) := U.w_bS
def wPar (i j : Nat) (ρ : En) (N : En → Cells → Prop) (l : List D) (S : Cells) : Prop := match l with
  | [d, e] => N ((ρ.set i (some d)).set j (some e)) S
  | _ => False
theorem wPar_2 {i j : Nat} {d e : D} : wPar i j ρ N [d, e] S = N ((ρ.set i (some d)).set j (some e)) S := nrfl rfl
theorem U.w_par {i j : Nat} {x : En → M (List D)} : U.wo (parS i j x ρ S) N Rt E = U.wp (x ρ S) (wPar i j ρ N) (fun x S => E x ρ S) := by
  unfold parS
  rw [U.w_bS]
  congr 1
  funext l S
  unfold wPar
  match l with
  | [] => rfl
  | [_] => rfl
  | [_, _] => rfl
  | _ :: _ :: _ :: _ => rfl
theorem U.w_aug {i : Nat} {op : D → D → Cells → Option D} : U.wo (augS i op f ρ S) N Rt E = U.wp (rd ρ i S) (fun x S => U.wp (f ρ S) (fun y S => U.wpo (op x y S) S fun d S => N (ρ.set i (some d)) S) (fun x S => E x ρ S)) (fun x S => E x ρ S) := by
  unfold augS
  rw [U.w_bS]
  simp only [U.w_bind, U.w_opt]
  rfl
def wSto (o : Option Cells) (ρ : En) (N : En → Cells → Prop) : Prop := match o with
  | some S => N ρ S
  | none => False
theorem U.w_sto : U.wo (stoS f fo fi ρ S) N Rt E = U.wp (f ρ S) (fun y S => U.wp (fo ρ S) (fun d S => U.wp (fi ρ S) (fun k S => wSto (setAtD d k y S) ρ N) (fun x S => E x ρ S)) (fun x S => E x ρ S)) (fun x S => E x ρ S) := by
  unfold stoS
  simp only [U.w_bS]
  congr 1
  funext y S
  congr 1
  funext d S
  congr 1
  funext k S
  cases setAtD d k y S <;> rfl
theorem U.w_exp : U.wo (expS f ρ S) N Rt E = U.wp (f ρ S) (fun _ S => N ρ S) (fun x S => E x ρ S) := U.w_bS
theorem U.w_ret : U.wo (retS f ρ S) N Rt E = U.wp (f ρ S) Rt (fun x S => E x ρ S) := U.w_bS
theorem U.w_retN : U.wo (retNS ρ S) N Rt E = Rt .non S := nrfl rfl
theorem U.w_nxS : U.wo (nxS ρ S) N Rt E = N ρ S := nrfl rfl
theorem U.w_ifS {c : En → M Bool} : U.wo (ifS c F G ρ S) N Rt E = U.wp (c ρ S) (fun k S => U.wif k (U.wo (F ρ S) N Rt E) (U.wo (G ρ S) N Rt E)) (fun x S => E x ρ S) := by
  unfold ifS
  rw [U.w_bS]
  congr 1
  funext k S
  cases k <;> simp [U.wif]
theorem U.w_for {x : En → M (List D)} {p : Pat} : U.wo (forS x p F ρ S) N Rt E = U.wp (x ρ S) (fun items S => U.wo (forD p F items ρ S) N Rt E) (fun x S => E x ρ S) := U.w_bS
def wAsg (p : Pat) (ρ : En) (N : En → Cells → Prop) (d : D) (S : Cells) : Prop := match p.put d ρ with
  | some ρ' => N ρ' S
  | none => False
theorem U.w_asg {p : Pat} : U.wo (asgD f p ρ S) N Rt E = U.wp (f ρ S) (wAsg p ρ N) (fun x S => E x ρ S) := by
  unfold asgD
  rw [U.w_bS]
  congr 1
  funext d S
  unfold wAsg
  cases p.put d ρ <;> rfl
theorem U.w_stk : U.wo (stkS ρ S) N Rt E = False := nrfl rfl
def wret (n : Nat) (S : Cells) (d : D) (Q : D → Cells → Prop) : Prop := match resv n S d with
  | some d' => Q d' (S.take n)
  | none => False
def wretL (n : Nat) (S : Cells) (d : D) (Q : List D → Cells → Prop) : Prop := match d with
  | .ref m => n ≤ m ∧ ∃ l, S[m]? = some ⟨true, .lst l⟩ ∧ Q l (S.take n)
  | _ => False
theorem U.w_body {Nn : Nat} {B : SM} {ds : List D} {Q : D → Cells → Prop} {E : Xc → Cells → Prop} : U.wp (bodyD Nn B ds S) Q E = U.wo (B (startD Nn ds) S) (fun _ S1 => Q .non (S1.take S.length)) (fun d S1 => wret S.length S1 d Q) (fun x _ S1 => E x (S1.take S.length)) := by
  unfold bodyD
  cases B (startD Nn ds) S with
  | rt d S1 =>
    show U.wp (retD S.length S1 (resv S.length S1 d)) Q E = wret S.length S1 d Q
    unfold wret
    cases resv S.length S1 d <;> rfl
  | _ => rfl
theorem U.w_bodyL {Nn : Nat} {B : SM} {ds : List D} {Q : List D → Cells → Prop} {E : Xc → Cells → Prop} : U.wp (bodyL Nn B ds S) Q E = U.wo (B (startD Nn ds) S) (fun _ _ => False) (fun d S1 => wretL S.length S1 d Q) (fun x _ S1 => E x (S1.take S.length)) := by
  unfold bodyL
  cases B (startD Nn ds) S with
  | rt d S1 =>
    cases d with
    | ref m =>
      show U.wp (if S.length ≤ m then (match S1[m]? with
        | some ⟨true, .lst l⟩ => .ok l (S1.take S.length)
        | _ => .stuck : DL.R (List D)) else .stuck) Q E = (S.length ≤ m ∧ ∃ l, S1[m]? = some ⟨true, .lst l⟩ ∧ Q l (S1.take S.length))
      by_cases h : S.length ≤ m
      · rw [if_pos h]
        refine propext ⟨fun q => ⟨h, ?_⟩, fun ⟨_, l, e, q⟩ => by rw [e]; exact q⟩
        split at q
        · rename_i l e
          exact ⟨l, e, q⟩
        · exact q.elim
      · rw [if_neg h]
        exact propext ⟨fun q => q.elim, fun q => absurd q.1 h⟩
    | _ => rfl
  | _ => rfl
variable {n : Nat} {Q : D → Cells → Prop}
theorem wret_non : wret n S .non Q = Q .non (S.take n) := nrfl rfl
theorem wret_bl {b : Bool} : wret n S (.bl b) Q = Q (.bl b) (S.take n) := nrfl rfl
theorem wret_int {b : Int} : wret n S (.int b) Q = Q (.int b) (S.take n) := nrfl rfl
theorem wret_str {b : Str} : wret n S (.str b) Q = Q (.str b) (S.take n) := nrfl rfl
theorem wret_flat {d : D} (h : d.flat = true) : wret n S d Q = Q d (S.take n) := by
  unfold wret
  rw [resv_flat _ _ _ h]
/-- a changed list is handed back as a new one -/
theorem wret_ref {m : Nat} {b : Bool} {l : List D} (hn : n ≤ m) (h : S[m]? = some ⟨b, .lst l⟩) : wret n S (.ref m) Q = Q (.lst l) (S.take n) := by
  unfold wret resv
  rw [if_neg (by omega), h]
theorem wretL_ref {m : Nat} {l : List D} {Q : List D → Cells → Prop} (hn : n ≤ m) (h : S[m]? = some ⟨true, .lst l⟩) (q : Q l (S.take n)) : wretL n S (.ref m) Q := ⟨hn, l, h, q⟩
end
section
variable {A B : Prop}
theorem U.wif_t : U.wif true A B = A := by simp [U.wif]
theorem U.wif_f : U.wif false A B = B := by simp [U.wif]
theorem U.wif_d {p : Prop} [Decidable p] : U.wif (decide p) A B = ((p → A) ∧ (¬ p → B)) := by simp [U.wif]
theorem U.wif_n {b : Bool} : U.wif (!b) A B = U.wif b B A := by cases b <;> simp [U.wif]
theorem U.wif_a {a b : Bool} : U.wif (a && b) A B = U.wif a (U.wif b A B) B := by cases a <;> cases b <;> simp [U.wif]
theorem U.wif_o {a b : Bool} : U.wif (a || b) A B = U.wif a A (U.wif b A B) := by cases a <;> cases b <;> simp [U.wif]
end
end
section
variable {α β γ : Type}
inductive Tg {α : Sort u} (a : α) : Type
  | mk
def wp (r : DL.R α) (Q : α → Cells → Prop) (E : Xc → Cells → Prop) (t : Tg (PProd.mk Q E) := .mk) : Prop := U.wp r Q E
def wpo (o : Option α) (S : Cells) (Q : α → Cells → Prop) (t : Tg Q := .mk) : Prop := U.wpo o S Q
def wpc (o : Option (α × Cells)) (Q : α → Cells → Prop) (t : Tg Q := .mk) : Prop := U.wpc o Q
def wif (b : Bool) (A B : Prop) (t : Tg (A ∧ B) := .mk) : Prop := U.wif b A B
def wo (o : Out) (N : En → Cells → Prop) (Rt : D → Cells → Prop) (E : Xc → En → Cells → Prop) (t : Tg (PProd.mk N (PProd.mk Rt E)) := .mk) : Prop := U.wo o N Rt E
end
section
variable {α β γ : Type}
theorem wp_ok {r : DL.R α} {a : α} {S : Cells} (h : wp r (fun b T => b = a ∧ T = S) noE) : r = .ok a S := U.wp_ok h
theorem wp_of {r : DL.R α} {a : α} {S : Cells} {Q : α → Cells → Prop} {E : Xc → Cells → Prop} (e : r = .ok a S) (h : Q a S) : wp r Q E := U.wp_of e h
theorem wp_mono {r : DL.R α} {Q Q' : α → Cells → Prop} {E E' : Xc → Cells → Prop} (h : wp r Q E) (hq : ∀ a S, Q a S → Q' a S) (he : ∀ x S, E x S → E' x S) : wp r Q' E' := U.wp_mono h hq he
theorem wp_ex {r : DL.R α} {Q : α → Cells → Prop} (h : wp r Q noE) : ∃ a S, r = .ok a S ∧ Q a S := U.wp_ex h
theorem wo_mono {o : Out} {N N' : En → Cells → Prop} {R R' : D → Cells → Prop} {E E' : Xc → En → Cells → Prop} (h : wo o N R E) (hn : ∀ ρ S, N ρ S → N' ρ S) (hr : ∀ d S, R d S → R' d S) (he : ∀ x ρ S, E x ρ S → E' x ρ S) : wo o N' R' E' := U.wo_mono h hn hr he
section
variable {a b c : M D} {S : Cells} {ρ : En} {Q : D → Cells → Prop} {QL : List D → Cells → Prop} {QB : Bool → Cells → Prop} {E : Xc → Cells → Prop}
theorem w_ok {a : α} {Q : α → Cells → Prop} : wp (.ok a S) Q E = Q a S := U.w_ok
theorem w_some {a : α} {Q : α → Cells → Prop} : wpo (some a) S Q = Q a S := U.w_some
theorem w_somec {a : α} {Q : α → Cells → Prop} : wpc (some (a, S)) Q = Q a S := U.w_somec
theorem w_bind {f : M α} {g : α → M β} {Q : β → Cells → Prop} : wp (M.bind f g S) Q E = wp (f S) (fun a S => wp (g a S) Q E) E := U.w_bind
theorem w_opt {f : Cells → Option α} {Q : α → Cells → Prop} : wp (M.opt f S) Q E = wpo (f S) S Q := U.w_opt
theorem w_chg {f : Cells → Option (α × Cells)} {Q : α → Cells → Prop} : wp (M.chg f S) Q E = wpc (f S) Q := U.w_chg
theorem w_kon {d : D} : wp (kon d S) Q E = Q d S := U.w_kon
theorem w_calm {f : M α} {Q : α → Cells → Prop} : wp (calmM f S) Q E = wp (f S) Q noE := U.w_calm
theorem w_b2 {op : D → D → Cells → Option D} : wp (b2 op a b S) Q E = wp (a S) (fun x S => wp (b S) (fun y S => wpo (op x y S) S Q) E) E := U.w_b2
theorem w_b2L {op : D → D → Cells → Option (List D)} : wp (b2L op a b S) QL E = wp (a S) (fun x S => wp (b S) (fun y S => wpo (op x y S) S QL) E) E := U.w_b2L
theorem w_b1 {op : D → Cells → Option D} : wp (b1 op a S) Q E = wp (a S) (fun x S => wpo (op x S) S Q) E := U.w_b1
theorem w_asB {d : D} : wpo (asB d) S QB = wB QB d S := U.w_asB
theorem w_b2T {op : D → D → Cells → Option D} : wp (b2T op a b S) QB E = wp (a S) (fun x S => wp (b S) (fun y S => wpo (op x y S) S (wB QB)) E) E := U.w_b2T
theorem w_if {k : Bool} {x y : M α} {Q : α → Cells → Prop} : wp ((if k = true then x else y) S) Q E = wif k (wp (x S) Q E) (wp (y S) Q E) := U.w_if
theorem w_chE {op op' : D → D → Cells → Option D} : wp (chE op op' a b c S) Q E = wp (a S) (fun x S => wp (b S) (fun y S => wpo (op x y S) S (wB fun k S => wif k (wp (c S) (fun z S => wpo (op' y z S) S Q) E) (Q (.bl false) S))) E) E := U.w_chE
theorem w_chT {op op' : D → D → Cells → Option D} : wp (chT op op' a b c S) QB E = wp (chE op op' a b c S) (wB QB) E := U.w_chT
theorem w_not {x : M Bool} : wp (notT x S) QB E = wp (x S) (fun c S => QB (!c) S) E := U.w_not
theorem w_val : wp (valT a S) QB E = wp (a S) (fun d S => wpo (truD d S) S QB) E := U.w_val
theorem w_notE : wp (notE a S) Q E = wp (a S) (wB fun c S => Q (.bl (!c)) S) E := U.w_notE
theorem w_ifE {k : M Bool} : wp (ifE k a b S) Q E = wp (k S) (fun k S => wif k (wp (a S) Q E) (wp (b S) Q E)) E := U.w_ifE
theorem w_ifL {k : M Bool} {x y : M (List D)} : wp (ifL k x y S) QL E = wp (k S) (fun k S => wif k (wp (x S) QL E) (wp (y S) QL E)) E := U.w_ifL
theorem w_andM {x y : M Bool} : wp (andM x y S) QB E = wp (x S) (fun k S => wif k (wp (y S) QB E) (QB false S)) E := U.w_andM
theorem w_orM {x y : M Bool} : wp (orM x y S) QB E = wp (x S) (fun k S => wif k (QB true S) (wp (y S) QB E)) E := U.w_orM
theorem w_andE : wp (andE a b S) Q E = wp (a S) (wB fun k S => wif k (wp (b S) Q E) (Q (.bl false) S)) E := U.w_andE
theorem w_orE : wp (orE a b S) Q E = wp (a S) (wB fun k S => wif k (Q (.bl true) S) (wp (b S) Q E)) E := U.w_orE
theorem w_nil : wp (nilA S) QL E = QL [] S := U.w_nil
theorem w_cons {x : M D} {y : M (List D)} : wp (consM x y S) QL E = wp (x S) (fun d S => wp (y S) (fun l S => QL (d :: l) S) E) E := U.w_cons
theorem w_tup {x : M (List D)} : wp (tupE x S) Q E = wp (x S) (fun l S => few l ∧ Q (.tup l) S) E := U.w_tup
theorem w_lst {x : M (List D)} : wp (lstE x S) QL E = wp (x S) (fun l S => few l ∧ QL l S) E := U.w_lst
theorem w_frz {x : M (List D)} : wp (frzE x S) Q E = wp (x S) (fun l S => Q (.lst l) S) E := U.w_frz
theorem w_new {l : List D} : wp (newC l S) Q E = (flatL l = true ∧ Q (.ref S.length) (S ++ [⟨true, .lst l⟩])) := U.w_new
theorem w_cel {x : M (List D)} : wp (celE x S) Q E = wp (x S) (fun l S => flatL l = true ∧ Q (.ref S.length) (S ++ [⟨true, .lst l⟩])) E := U.w_cel
theorem w_cb {op : List D → Cells → Option D} {x : M (List D)} : wp (cbE op x S) Q E = wp (x S) (fun l S => wpo (op l S) S Q) E := U.w_cb
theorem w_cbL {op : List D → Cells → Option (List D)} {x : M (List D)} : wp (cbL op x S) QL E = wp (x S) (fun l S => wpo (op l S) S QL) E := U.w_cbL
theorem w_ar {n : Nat} {g : List D → M α} {l : List D} {Q : α → Cells → Prop} (h : l.length = n) : wp (arity n g l S) Q E = wp (g l S) Q E := U.w_ar h
theorem w_call {n : Nat} {g : List D → M D} {x : M (List D)} : wp (callE n g x S) Q E = wp (x S) (fun l S => wp (arity n g l S) Q noE) E := U.w_call
theorem w_callL {n : Nat} {g : List D → M (List D)} {x : M (List D)} : wp (callL n g x S) QL E = wp (x S) (fun l S => wp (arity n g l S) QL noE) E := U.w_callL
theorem w_ar0 {g : List D → M α} {Q : α → Cells → Prop} : wp (arity 0 g [] S) Q E = wp (g [] S) Q E := U.w_ar0
theorem w_ar1 {g : List D → M α} {Q : α → Cells → Prop} {x1 : D} : wp (arity 1 g [x1] S) Q E = wp (g [x1] S) Q E := U.w_ar1
theorem w_ar2 {g : List D → M α} {Q : α → Cells → Prop} {x1 x2 : D} : wp (arity 2 g [x1, x2] S) Q E = wp (g [x1, x2] S) Q E := U.w_ar2
theorem w_ar3 {g : List D → M α} {Q : α → Cells → Prop} {x1 x2 x3 : D} : wp (arity 3 g [x1, x2, x3] S) Q E = wp (g [x1, x2, x3] S) Q E := U.w_ar3
theorem w_ar4 {g : List D → M α} {Q : α → Cells → Prop} {x1 x2 x3 x4 : D} : wp (arity 4 g [x1, x2, x3, x4] S) Q E = wp (g [x1, x2, x3, x4] S) Q E := U.w_ar4
theorem w_ar5 {g : List D → M α} {Q : α → Cells → Prop} {x1 x2 x3 x4 x5 : D} : wp (arity 5 g [x1, x2, x3, x4, x5] S) Q E = wp (g [x1, x2, x3, x4, x5] S) Q E := U.w_ar5
theorem w_ar6 {g : List D → M α} {Q : α → Cells → Prop} {x1 x2 x3 x4 x5 x6 : D} : wp (arity 6 g [x1, x2, x3, x4, x5, x6] S) Q E = wp (g [x1, x2, x3, x4, x5, x6] S) Q E := U.w_ar6
variable {QO : Option Int → Cells → Prop}
theorem w_noO : wp (noO S) QO E = QO none S := U.w_noO
theorem w_smO : wp (smO a S) QO E = wp (a S) (fun d S => wpo (partD d) S QO) E := U.w_smO
theorem w_sl {i j : M (Option Int)} : wp (slE a i j S) Q E = wp (a S) (fun d S => wp (i S) (fun i S => wp (j S) (fun j S => wpo (slD d i j S) S Q) E) E) E := U.w_sl
theorem w_slL {i j : M (Option Int)} : wp (slLL a i j S) QL E = wp (a S) (fun d S => wp (i S) (fun i S => wp (j S) (fun j S => wpo (slL d i j S) S QL) E) E) E := U.w_slL
theorem w_rev : wp (revL a S) QL E = wp (a S) (fun d S => wpo ((seqL S d).map List.reverse) S QL) E := U.w_rev
theorem w_step : wp (stepL a b S) QL E = wp (a S) (fun d S => wp (b S) (fun y S => wpo (sliceStepD d y S) S QL) E) E := U.w_step
theorem w_isi {tab : String → Bool} : wp (isiE tab a S) Q E = wp (a S) (fun d S => wpo (isiD tab d S) S Q) E := U.w_isi
theorem w_sets : wp (setsL a S) QL E = wp (a S) (fun d S => wpo (setSortD d S) S QL) E := U.w_sets
theorem w_lrg {x : M (List D)} : wp (lrgL x S) QL E = wp (x S) (fun l S => wpo (rangeA l) S QL) E := U.w_lrg
theorem w_mth {tn : String} {op : D → List D → Cells → Option (D × Cells)} {x : M (List D)} : wp (mthE tn op a x S) Q E = wp (a S) (fun d S => wpo (isTy tn d S) S fun _ S => wp (x S) (fun l S => wpc (op d l S) Q) E) E := U.w_mth
theorem w_mth0 {tn : String} {op : D → List D → Cells → Option (D × Cells)} : wp (mth0 tn op a S) Q E = wp (a S) (fun d S => wpo (isTy tn d S) S fun _ S => wpc (op d [] S) Q) E := U.w_mth0
theorem w_itS : wp (itS a S) QL E = wp (a S) (fun d S => wpo (itemsD d) S QL) E := U.w_itS
theorem w_itR1 {x : M (List D)} : wp (itR1 x S) QL E = wp (x S) (fun l S => wpo (range1 l) S QL) E := U.w_itR1
theorem w_itR2 {x : M (List D)} : wp (itR2 x S) QL E = wp (x S) (fun l S => wpo (range2 l) S QL) E := U.w_itR2
theorem w_itR3 {x : M (List D)} : wp (itR3 x S) QL E = wp (x S) (fun l S => wpo (range3 l) S QL) E := U.w_itR3
theorem w_itZ {x : M (List D)} : wp (itZ x S) QL E = wp (x S) (fun l S => wpo (zipA l) S QL) E := U.w_itZ
theorem w_itN {x : M (List D)} : wp (itN x S) QL E = wp (x S) (fun l S => wpo (enumA l) S QL) E := U.w_itN
theorem w_lc {i : M (List D)} {p : Pat} {t : En → M Bool} {e : En → M D} {vs : List Nat} : wp (lcL i p t e ρ vs S) QL E = wp (i S) (fun items S => wp (compD p t e (wipeD ρ vs) items S) QL E) E := U.w_lc
end
section
variable {S : Cells} {ρ : En} {N : En → Cells → Prop} {Rt : D → Cells → Prop} {E : Xc → En → Cells → Prop} {F G : SM} {f fo fi : En → M D}
theorem w_nx : wo (.nx ρ S) N Rt E = N ρ S := U.w_nx
theorem w_rt {d : D} : wo (.rt d S) N Rt E = Rt d S := U.w_rt
theorem w_seq : wo (seqS F G ρ S) N Rt E = wo (F ρ S) (fun ρ S => wo (G ρ S) N Rt E) Rt E := U.w_seq
theorem w_bS {f : En → M α} {g : α → SM} : wo (bindS f g ρ S) N Rt E = wp (f ρ S) (fun a S => wo (g a ρ S) N Rt E) (fun x S => E x ρ S) := U.w_bS
theorem w_set {i : Nat} : wo (setS i f ρ S) N Rt E = wp (f ρ S) (fun d S => N (ρ.set i (some d)) S) (fun x S => E x ρ S) := U.w_set
theorem w_par {i j : Nat} {x : En → M (List D)} : wo (parS i j x ρ S) N Rt E = wp (x ρ S) (wPar i j ρ N) (fun x S => E x ρ S) := U.w_par
theorem w_aug {i : Nat} {op : D → D → Cells → Option D} : wo (augS i op f ρ S) N Rt E = wp (rd ρ i S) (fun x S => wp (f ρ S) (fun y S => wpo (op x y S) S fun d S => N (ρ.set i (some d)) S) (fun x S => E x ρ S)) (fun x S => E x ρ S) := U.w_aug
theorem w_sto : wo (stoS f fo fi ρ S) N Rt E = wp (f ρ S) (fun y S => wp (fo ρ S) (fun d S => wp (fi ρ S) (fun k S => wSto (setAtD d k y S) ρ N) (fun x S => E x ρ S)) (fun x S => E x ρ S)) (fun x S => E x ρ S) := U.w_sto
theorem w_exp : wo (expS f ρ S) N Rt E = wp (f ρ S) (fun _ S => N ρ S) (fun x S => E x ρ S) := U.w_exp
theorem w_ret : wo (retS f ρ S) N Rt E = wp (f ρ S) Rt (fun x S => E x ρ S) := U.w_ret
theorem w_retN : wo (retNS ρ S) N Rt E = Rt .non S := U.w_retN
theorem w_nxS : wo (nxS ρ S) N Rt E = N ρ S := U.w_nxS
theorem w_ifS {c : En → M Bool} : wo (ifS c F G ρ S) N Rt E = wp (c ρ S) (fun k S => wif k (wo (F ρ S) N Rt E) (wo (G ρ S) N Rt E)) (fun x S => E x ρ S) := U.w_ifS
theorem w_for {x : En → M (List D)} {p : Pat} : wo (forS x p F ρ S) N Rt E = wp (x ρ S) (fun items S => wo (forD p F items ρ S) N Rt E) (fun x S => E x ρ S) := U.w_for
theorem w_asg {p : Pat} : wo (asgD f p ρ S) N Rt E = wp (f ρ S) (wAsg p ρ N) (fun x S => E x ρ S) := U.w_asg
theorem w_stk : wo (stkS ρ S) N Rt E = False := U.w_stk
theorem w_body {Nn : Nat} {B : SM} {ds : List D} {Q : D → Cells → Prop} {E : Xc → Cells → Prop} : wp (bodyD Nn B ds S) Q E = wo (B (startD Nn ds) S) (fun _ S1 => Q .non (S1.take S.length)) (fun d S1 => wret S.length S1 d Q) (fun x _ S1 => E x (S1.take S.length)) := U.w_body
theorem w_bodyL {Nn : Nat} {B : SM} {ds : List D} {Q : List D → Cells → Prop} {E : Xc → Cells → Prop} : wp (bodyL Nn B ds S) Q E = wo (B (startD Nn ds) S) (fun _ _ => False) (fun d S1 => wretL S.length S1 d Q) (fun x _ S1 => E x (S1.take S.length)) := U.w_bodyL
variable {n : Nat} {Q : D → Cells → Prop}
end
section
variable {A B : Prop}
theorem wif_t : wif true A B = A := U.wif_t
theorem wif_f : wif false A B = B := U.wif_f
theorem wif_d {p : Prop} [Decidable p] : wif (decide p) A B = ((p → A) ∧ (¬ p → B)) := U.wif_d
theorem wif_n {b : Bool} : wif (!b) A B = wif b B A := U.wif_n
theorem wif_a {a b : Bool} : wif (a && b) A B = wif a (wif b A B) B := U.wif_a
theorem wif_o {a b : Bool} : wif (a || b) A B = wif a A (wif b A B) := U.wif_o
end
end
end DL
end
section
set_option maxHeartbeats 4000000
namespace DL
open PySem PySem.Spec L2
open PyProof.Rows hiding St
section
variable {α : Type} {S S' : Cells} {ρ : En} {Q : D → Cells → Prop} {QL : List D → Cells → Prop} {E : Xc → Cells → Prop} {N : En → Cells → Prop} {d e : D} {i j k : Int} {x y : Str} {l m : List D}
theorem r0 : wp (rd (some d :: ρ) 0 S) Q E = Q d S := nrfl rfl
theorem r1 {x0 : Option D} : wp (rd (x0 :: some d :: ρ) 1 S) Q E = Q d S := nrfl rfl
theorem r2 {x0 x1 : Option D} : wp (rd (x0 :: x1 :: some d :: ρ) 2 S) Q E = Q d S := nrfl rfl
theorem r3 {x0 x1 x2 : Option D} : wp (rd (x0 :: x1 :: x2 :: some d :: ρ) 3 S) Q E = Q d S := nrfl rfl
theorem r4 {x0 x1 x2 x3 : Option D} : wp (rd (x0 :: x1 :: x2 :: x3 :: some d :: ρ) 4 S) Q E = Q d S := nrfl rfl
theorem r5 {x0 x1 x2 x3 x4 : Option D} : wp (rd (x0 :: x1 :: x2 :: x3 :: x4 :: some d :: ρ) 5 S) Q E = Q d S := nrfl rfl
theorem r6 {x0 x1 x2 x3 x4 x5 : Option D} : wp (rd (x0 :: x1 :: x2 :: x3 :: x4 :: x5 :: some d :: ρ) 6 S) Q E = Q d S := nrfl rfl
theorem r7 {x0 x1 x2 x3 x4 x5 x6 : Option D} : wp (rd (x0 :: x1 :: x2 :: x3 :: x4 :: x5 :: x6 :: some d :: ρ) 7 S) Q E = Q d S := nrfl rfl
theorem r8 {x0 x1 x2 x3 x4 x5 x6 x7 : Option D} : wp (rd (x0 :: x1 :: x2 :: x3 :: x4 :: x5 :: x6 :: x7 :: some d :: ρ) 8 S) Q E = Q d S := nrfl rfl
theorem r9 {x0 x1 x2 x3 x4 x5 x6 x7 x8 : Option D} : wp (rd (x0 :: x1 :: x2 :: x3 :: x4 :: x5 :: x6 :: x7 :: x8 :: some d :: ρ) 9 S) Q E = Q d S := nrfl rfl
theorem r10 {x0 x1 x2 x3 x4 x5 x6 x7 x8 x9 : Option D} : wp (rd (x0 :: x1 :: x2 :: x3 :: x4 :: x5 :: x6 :: x7 :: x8 :: x9 :: some d :: ρ) 10 S) Q E = Q d S := nrfl rfl
theorem r11 {x0 x1 x2 x3 x4 x5 x6 x7 x8 x9 x10 : Option D} : wp (rd (x0 :: x1 :: x2 :: x3 :: x4 :: x5 :: x6 :: x7 :: x8 :: x9 :: x10 :: some d :: ρ) 11 S) Q E = Q d S := nrfl rfl
theorem r12 {x0 x1 x2 x3 x4 x5 x6 x7 x8 x9 x10 x11 : Option D} : wp (rd (x0 :: x1 :: x2 :: x3 :: x4 :: x5 :: x6 :: x7 :: x8 :: x9 :: x10 :: x11 :: some d :: ρ) 12 S) Q E = Q d S := nrfl rfl
theorem r13 {x0 x1 x2 x3 x4 x5 x6 x7 x8 x9 x10 x11 x12 : Option D} : wp (rd (x0 :: x1 :: x2 :: x3 :: x4 :: x5 :: x6 :: x7 :: x8 :: x9 :: x10 :: x11 :: x12 :: some d :: ρ) 13 S) Q E = Q d S := nrfl rfl
theorem r14 {x0 x1 x2 x3 x4 x5 x6 x7 x8 x9 x10 x11 x12 x13 : Option D} : wp (rd (x0 :: x1 :: x2 :: x3 :: x4 :: x5 :: x6 :: x7 :: x8 :: x9 :: x10 :: x11 :: x12 :: x13 :: some d :: ρ) 14 S) Q E = Q d S := nrfl rfl
theorem r15 {x0 x1 x2 x3 x4 x5 x6 x7 x8 x9 x10 x11 x12 x13 x14 : Option D} : wp (rd (x0 :: x1 :: x2 :: x3 :: x4 :: x5 :: x6 :: x7 :: x8 :: x9 :: x10 :: x11 :: x12 :: x13 :: x14 :: some d :: ρ) 15 S) Q E = Q d S := nrfl rfl
theorem r16 {x0 x1 x2 x3 x4 x5 x6 x7 x8 x9 x10 x11 x12 x13 x14 x15 : Option D} : wp (rd (x0 :: x1 :: x2 :: x3 :: x4 :: x5 :: x6 :: x7 :: x8 :: x9 :: x10 :: x11 :: x12 :: x13 :: x14 :: x15 :: some d :: ρ) 16 S) Q E = Q d S := nrfl rfl
theorem r17 {x0 x1 x2 x3 x4 x5 x6 x7 x8 x9 x10 x11 x12 x13 x14 x15 x16 : Option D} : wp (rd (x0 :: x1 :: x2 :: x3 :: x4 :: x5 :: x6 :: x7 :: x8 :: x9 :: x10 :: x11 :: x12 :: x13 :: x14 :: x15 :: x16 :: some d :: ρ) 17 S) Q E = Q d S := nrfl rfl
theorem r18 {x0 x1 x2 x3 x4 x5 x6 x7 x8 x9 x10 x11 x12 x13 x14 x15 x16 x17 : Option D} : wp (rd (x0 :: x1 :: x2 :: x3 :: x4 :: x5 :: x6 :: x7 :: x8 :: x9 :: x10 :: x11 :: x12 :: x13 :: x14 :: x15 :: x16 :: x17 :: some d :: ρ) 18 S) Q E = Q d S := nrfl rfl
theorem r19 {x0 x1 x2 x3 x4 x5 x6 x7 x8 x9 x10 x11 x12 x13 x14 x15 x16 x17 x18 : Option D} : wp (rd (x0 :: x1 :: x2 :: x3 :: x4 :: x5 :: x6 :: x7 :: x8 :: x9 :: x10 :: x11 :: x12 :: x13 :: x14 :: x15 :: x16 :: x17 :: x18 :: some d :: ρ) 19 S) Q E = Q d S := nrfl rfl
theorem r20 {x0 x1 x2 x3 x4 x5 x6 x7 x8 x9 x10 x11 x12 x13 x14 x15 x16 x17 x18 x19 : Option D} : wp (rd (x0 :: x1 :: x2 :: x3 :: x4 :: x5 :: x6 :: x7 :: x8 :: x9 :: x10 :: x11 :: x12 :: x13 :: x14 :: x15 :: x16 :: x17 :: x18 :: x19 :: some d :: ρ) 20 S) Q E = Q d S := nrfl rfl
theorem r21 {x0 x1 x2 x3 x4 x5 x6 x7 x8 x9 x10 x11 x12 x13 x14 x15 x16 x17 x18 x19 x20 : Option D} : wp (rd (x0 :: x1 :: x2 :: x3 :: x4 :: x5 :: x6 :: x7 :: x8 :: x9 :: x10 :: x11 :: x12 :: x13 :: x14 :: x15 :: x16 :: x17 :: x18 :: x19 :: x20 :: some d :: ρ) 21 S) Q E = Q d S := nrfl rfl
theorem r22 {x0 x1 x2 x3 x4 x5 x6 x7 x8 x9 x10 x11 x12 x13 x14 x15 x16 x17 x18 x19 x20 x21 : Option D} : wp (rd (x0 :: x1 :: x2 :: x3 :: x4 :: x5 :: x6 :: x7 :: x8 :: x9 :: x10 :: x11 :: x12 :: x13 :: x14 :: x15 :: x16 :: x17 :: x18 :: x19 :: x20 :: x21 :: some d :: ρ) 22 S) Q E = Q d S := nrfl rfl
theorem r23 {x0 x1 x2 x3 x4 x5 x6 x7 x8 x9 x10 x11 x12 x13 x14 x15 x16 x17 x18 x19 x20 x21 x22 : Option D} : wp (rd (x0 :: x1 :: x2 :: x3 :: x4 :: x5 :: x6 :: x7 :: x8 :: x9 :: x10 :: x11 :: x12 :: x13 :: x14 :: x15 :: x16 :: x17 :: x18 :: x19 :: x20 :: x21 :: x22 :: some d :: ρ) 23 S) Q E = Q d S := nrfl rfl
theorem r24 {x0 x1 x2 x3 x4 x5 x6 x7 x8 x9 x10 x11 x12 x13 x14 x15 x16 x17 x18 x19 x20 x21 x22 x23 : Option D} : wp (rd (x0 :: x1 :: x2 :: x3 :: x4 :: x5 :: x6 :: x7 :: x8 :: x9 :: x10 :: x11 :: x12 :: x13 :: x14 :: x15 :: x16 :: x17 :: x18 :: x19 :: x20 :: x21 :: x22 :: x23 :: some d :: ρ) 24 S) Q E = Q d S := nrfl rfl
theorem r25 {x0 x1 x2 x3 x4 x5 x6 x7 x8 x9 x10 x11 x12 x13 x14 x15 x16 x17 x18 x19 x20 x21 x22 x23 x24 : Option D} : wp (rd (x0 :: x1 :: x2 :: x3 :: x4 :: x5 :: x6 :: x7 :: x8 :: x9 :: x10 :: x11 :: x12 :: x13 :: x14 :: x15 :: x16 :: x17 :: x18 :: x19 :: x20 :: x21 :: x22 :: x23 :: x24 :: some d :: ρ) 25 S) Q E = Q d S := nrfl rfl
theorem r26 {x0 x1 x2 x3 x4 x5 x6 x7 x8 x9 x10 x11 x12 x13 x14 x15 x16 x17 x18 x19 x20 x21 x22 x23 x24 x25 : Option D} : wp (rd (x0 :: x1 :: x2 :: x3 :: x4 :: x5 :: x6 :: x7 :: x8 :: x9 :: x10 :: x11 :: x12 :: x13 :: x14 :: x15 :: x16 :: x17 :: x18 :: x19 :: x20 :: x21 :: x22 :: x23 :: x24 :: x25 :: some d :: ρ) 26 S) Q E = Q d S := nrfl rfl
theorem r27 {x0 x1 x2 x3 x4 x5 x6 x7 x8 x9 x10 x11 x12 x13 x14 x15 x16 x17 x18 x19 x20 x21 x22 x23 x24 x25 x26 : Option D} : wp (rd (x0 :: x1 :: x2 :: x3 :: x4 :: x5 :: x6 :: x7 :: x8 :: x9 :: x10 :: x11 :: x12 :: x13 :: x14 :: x15 :: x16 :: x17 :: x18 :: x19 :: x20 :: x21 :: x22 :: x23 :: x24 :: x25 :: x26 :: some d :: ρ) 27 S) Q E = Q d S := nrfl rfl
theorem r28 {x0 x1 x2 x3 x4 x5 x6 x7 x8 x9 x10 x11 x12 x13 x14 x15 x16 x17 x18 x19 x20 x21 x22 x23 x24 x25 x26 x27 : Option D} : wp (rd (x0 :: x1 :: x2 :: x3 :: x4 :: x5 :: x6 :: x7 :: x8 :: x9 :: x10 :: x11 :: x12 :: x13 :: x14 :: x15 :: x16 :: x17 :: x18 :: x19 :: x20 :: x21 :: x22 :: x23 :: x24 :: x25 :: x26 :: x27 :: some d :: ρ) 28 S) Q E = Q d S := nrfl rfl
theorem r29 {x0 x1 x2 x3 x4 x5 x6 x7 x8 x9 x10 x11 x12 x13 x14 x15 x16 x17 x18 x19 x20 x21 x22 x23 x24 x25 x26 x27 x28 : Option D} : wp (rd (x0 :: x1 :: x2 :: x3 :: x4 :: x5 :: x6 :: x7 :: x8 :: x9 :: x10 :: x11 :: x12 :: x13 :: x14 :: x15 :: x16 :: x17 :: x18 :: x19 :: x20 :: x21 :: x22 :: x23 :: x24 :: x25 :: x26 :: x27 :: x28 :: some d :: ρ) 29 S) Q E = Q d S := nrfl rfl
theorem s0 {x0 y : Option D} : List.set (x0 :: ρ) 0 y = y :: ρ := nrfl rfl
theorem s1 {x0 x1 y : Option D} : List.set (x0 :: x1 :: ρ) 1 y = x0 :: y :: ρ := nrfl rfl
theorem s2 {x0 x1 x2 y : Option D} : List.set (x0 :: x1 :: x2 :: ρ) 2 y = x0 :: x1 :: y :: ρ := nrfl rfl
theorem s3 {x0 x1 x2 x3 y : Option D} : List.set (x0 :: x1 :: x2 :: x3 :: ρ) 3 y = x0 :: x1 :: x2 :: y :: ρ := nrfl rfl
theorem s4 {x0 x1 x2 x3 x4 y : Option D} : List.set (x0 :: x1 :: x2 :: x3 :: x4 :: ρ) 4 y = x0 :: x1 :: x2 :: x3 :: y :: ρ := nrfl rfl
theorem s5 {x0 x1 x2 x3 x4 x5 y : Option D} : List.set (x0 :: x1 :: x2 :: x3 :: x4 :: x5 :: ρ) 5 y = x0 :: x1 :: x2 :: x3 :: x4 :: y :: ρ := nrfl rfl
theorem s6 {x0 x1 x2 x3 x4 x5 x6 y : Option D} : List.set (x0 :: x1 :: x2 :: x3 :: x4 :: x5 :: x6 :: ρ) 6 y = x0 :: x1 :: x2 :: x3 :: x4 :: x5 :: y :: ρ := nrfl rfl
theorem s7 {x0 x1 x2 x3 x4 x5 x6 x7 y : Option D} : List.set (x0 :: x1 :: x2 :: x3 :: x4 :: x5 :: x6 :: x7 :: ρ) 7 y = x0 :: x1 :: x2 :: x3 :: x4 :: x5 :: x6 :: y :: ρ := nrfl rfl
theorem s8 {x0 x1 x2 x3 x4 x5 x6 x7 x8 y : Option D} : List.set (x0 :: x1 :: x2 :: x3 :: x4 :: x5 :: x6 :: x7 :: x8 :: ρ) 8 y = x0 :: x1 :: x2 :: x3 :: x4 :: x5 :: x6 :: x7 :: y :: ρ := nrfl rfl
theorem s9 {x0 x1 x2 x3 x4 x5 x6 x7 x8 x9 y : Option D} : List.set (x0 :: x1 :: x2 :: x3 :: x4 :: x5 :: x6 :: x7 :: x8 :: x9 :: ρ) 9 y = x0 :: x1 :: x2 :: x3 :: x4 :: x5 :: x6 :: x7 :: x8 :: y :: ρ := nrfl rfl
theorem s10 {x0 x1 x2 x3 x4 x5 x6 x7 x8 x9 x10 y : Option D} : List.set (x0 :: x1 :: x2 :: x3 :: x4 :: x5 :: x6 :: x7 :: x8 :: x9 :: x10 :: ρ) 10 y = x0 :: x1 :: x2 :: x3 :: x4 :: x5 :: x6 :: x7 :: x8 :: x9 :: y :: ρ := nrfl rfl
theorem s11 {x0 x1 x2 x3 x4 x5 x6 x7 x8 x9 x10 x11 y : Option D} : List.set (x0 :: x1 :: x2 :: x3 :: x4 :: x5 :: x6 :: x7 :: x8 :: x9 :: x10 :: x11 :: ρ) 11 y = x0 :: x1 :: x2 :: x3 :: x4 :: x5 :: x6 :: x7 :: x8 :: x9 :: x10 :: y :: ρ := nrfl rfl
theorem s12 {x0 x1 x2 x3 x4 x5 x6 x7 x8 x9 x10 x11 x12 y : Option D} : List.set (x0 :: x1 :: x2 :: x3 :: x4 :: x5 :: x6 :: x7 :: x8 :: x9 :: x10 :: x11 :: x12 :: ρ) 12 y = x0 :: x1 :: x2 :: x3 :: x4 :: x5 :: x6 :: x7 :: x8 :: x9 :: x10 :: x11 :: y :: ρ := nrfl rfl
theorem s13 {x0 x1 x2 x3 x4 x5 x6 x7 x8 x9 x10 x11 x12 x13 y : Option D} : List.set (x0 :: x1 :: x2 :: x3 :: x4 :: x5 :: x6 :: x7 :: x8 :: x9 :: x10 :: x11 :: x12 :: x13 :: ρ) 13 y = x0 :: x1 :: x2 :: x3 :: x4 :: x5 :: x6 :: x7 :: x8 :: x9 :: x10 :: x11 :: x12 :: y :: ρ := nrfl rfl
theorem s14 {x0 x1 x2 x3 x4 x5 x6 x7 x8 x9 x10 x11 x12 x13 x14 y : Option D} : List.set (x0 :: x1 :: x2 :: x3 :: x4 :: x5 :: x6 :: x7 :: x8 :: x9 :: x10 :: x11 :: x12 :: x13 :: x14 :: ρ) 14 y = x0 :: x1 :: x2 :: x3 :: x4 :: x5 :: x6 :: x7 :: x8 :: x9 :: x10 :: x11 :: x12 :: x13 :: y :: ρ := nrfl rfl
theorem s15 {x0 x1 x2 x3 x4 x5 x6 x7 x8 x9 x10 x11 x12 x13 x14 x15 y : Option D} : List.set (x0 :: x1 :: x2 :: x3 :: x4 :: x5 :: x6 :: x7 :: x8 :: x9 :: x10 :: x11 :: x12 :: x13 :: x14 :: x15 :: ρ) 15 y = x0 :: x1 :: x2 :: x3 :: x4 :: x5 :: x6 :: x7 :: x8 :: x9 :: x10 :: x11 :: x12 :: x13 :: x14 :: y :: ρ := nrfl rfl
theorem s16 {x0 x1 x2 x3 x4 x5 x6 x7 x8 x9 x10 x11 x12 x13 x14 x15 x16 y : Option D} : List.set (x0 :: x1 :: x2 :: x3 :: x4 :: x5 :: x6 :: x7 :: x8 :: x9 :: x10 :: x11 :: x12 :: x13 :: x14 :: x15 :: x16 :: ρ) 16 y = x0 :: x1 :: x2 :: x3 :: x4 :: x5 :: x6 :: x7 :: x8 :: x9 :: x10 :: x11 :: x12 :: x13 :: x14 :: x15 :: y :: ρ := nrfl rfl
theorem s17 {x0 x1 x2 x3 x4 x5 x6 x7 x8 x9 x10 x11 x12 x13 x14 x15 x16 x17 y : Option D} : List.set (x0 :: x1 :: x2 :: x3 :: x4 :: x5 :: x6 :: x7 :: x8 :: x9 :: x10 :: x11 :: x12 :: x13 :: x14 :: x15 :: x16 :: x17 :: ρ) 17 y = x0 :: x1 :: x2 :: x3 :: x4 :: x5 :: x6 :: x7 :: x8 :: x9 :: x10 :: x11 :: x12 :: x13 :: x14 :: x15 :: x16 :: y :: ρ := nrfl rfl
theorem s18 {x0 x1 x2 x3 x4 x5 x6 x7 x8 x9 x10 x11 x12 x13 x14 x15 x16 x17 x18 y : Option D} : List.set (x0 :: x1 :: x2 :: x3 :: x4 :: x5 :: x6 :: x7 :: x8 :: x9 :: x10 :: x11 :: x12 :: x13 :: x14 :: x15 :: x16 :: x17 :: x18 :: ρ) 18 y = x0 :: x1 :: x2 :: x3 :: x4 :: x5 :: x6 :: x7 :: x8 :: x9 :: x10 :: x11 :: x12 :: x13 :: x14 :: x15 :: x16 :: x17 :: y :: ρ := nrfl rfl
theorem s19 {x0 x1 x2 x3 x4 x5 x6 x7 x8 x9 x10 x11 x12 x13 x14 x15 x16 x17 x18 x19 y : Option D} : List.set (x0 :: x1 :: x2 :: x3 :: x4 :: x5 :: x6 :: x7 :: x8 :: x9 :: x10 :: x11 :: x12 :: x13 :: x14 :: x15 :: x16 :: x17 :: x18 :: x19 :: ρ) 19 y = x0 :: x1 :: x2 :: x3 :: x4 :: x5 :: x6 :: x7 :: x8 :: x9 :: x10 :: x11 :: x12 :: x13 :: x14 :: x15 :: x16 :: x17 :: x18 :: y :: ρ := nrfl rfl
theorem s20 {x0 x1 x2 x3 x4 x5 x6 x7 x8 x9 x10 x11 x12 x13 x14 x15 x16 x17 x18 x19 x20 y : Option D} : List.set (x0 :: x1 :: x2 :: x3 :: x4 :: x5 :: x6 :: x7 :: x8 :: x9 :: x10 :: x11 :: x12 :: x13 :: x14 :: x15 :: x16 :: x17 :: x18 :: x19 :: x20 :: ρ) 20 y = x0 :: x1 :: x2 :: x3 :: x4 :: x5 :: x6 :: x7 :: x8 :: x9 :: x10 :: x11 :: x12 :: x13 :: x14 :: x15 :: x16 :: x17 :: x18 :: x19 :: y :: ρ := nrfl rfl
theorem s21 {x0 x1 x2 x3 x4 x5 x6 x7 x8 x9 x10 x11 x12 x13 x14 x15 x16 x17 x18 x19 x20 x21 y : Option D} : List.set (x0 :: x1 :: x2 :: x3 :: x4 :: x5 :: x6 :: x7 :: x8 :: x9 :: x10 :: x11 :: x12 :: x13 :: x14 :: x15 :: x16 :: x17 :: x18 :: x19 :: x20 :: x21 :: ρ) 21 y = x0 :: x1 :: x2 :: x3 :: x4 :: x5 :: x6 :: x7 :: x8 :: x9 :: x10 :: x11 :: x12 :: x13 :: x14 :: x15 :: x16 :: x17 :: x18 :: x19 :: x20 :: y :: ρ := nrfl rfl
theorem s22 {x0 x1 x2 x3 x4 x5 x6 x7 x8 x9 x10 x11 x12 x13 x14 x15 x16 x17 x18 x19 x20 x21 x22 y : Option D} : List.set (x0 :: x1 :: x2 :: x3 :: x4 :: x5 :: x6 :: x7 :: x8 :: x9 :: x10 :: x11 :: x12 :: x13 :: x14 :: x15 :: x16 :: x17 :: x18 :: x19 :: x20 :: x21 :: x22 :: ρ) 22 y = x0 :: x1 :: x2 :: x3 :: x4 :: x5 :: x6 :: x7 :: x8 :: x9 :: x10 :: x11 :: x12 :: x13 :: x14 :: x15 :: x16 :: x17 :: x18 :: x19 :: x20 :: x21 :: y :: ρ := nrfl rfl
theorem s23 {x0 x1 x2 x3 x4 x5 x6 x7 x8 x9 x10 x11 x12 x13 x14 x15 x16 x17 x18 x19 x20 x21 x22 x23 y : Option D} : List.set (x0 :: x1 :: x2 :: x3 :: x4 :: x5 :: x6 :: x7 :: x8 :: x9 :: x10 :: x11 :: x12 :: x13 :: x14 :: x15 :: x16 :: x17 :: x18 :: x19 :: x20 :: x21 :: x22 :: x23 :: ρ) 23 y = x0 :: x1 :: x2 :: x3 :: x4 :: x5 :: x6 :: x7 :: x8 :: x9 :: x10 :: x11 :: x12 :: x13 :: x14 :: x15 :: x16 :: x17 :: x18 :: x19 :: x20 :: x21 :: x22 :: y :: ρ := nrfl rfl
theorem s24 {x0 x1 x2 x3 x4 x5 x6 x7 x8 x9 x10 x11 x12 x13 x14 x15 x16 x17 x18 x19 x20 x21 x22 x23 x24 y : Option D} : List.set (x0 :: x1 :: x2 :: x3 :: x4 :: x5 :: x6 :: x7 :: x8 :: x9 :: x10 :: x11 :: x12 :: x13 :: x14 :: x15 :: x16 :: x17 :: x18 :: x19 :: x20 :: x21 :: x22 :: x23 :: x24 :: ρ) 24 y = x0 :: x1 :: x2 :: x3 :: x4 :: x5 :: x6 :: x7 :: x8 :: x9 :: x10 :: x11 :: x12 :: x13 :: x14 :: x15 :: x16 :: x17 :: x18 :: x19 :: x20 :: x21 :: x22 :: x23 :: y :: ρ := nrfl rfl
theorem s25 {x0 x1 x2 x3 x4 x5 x6 x7 x8 x9 x10 x11 x12 x13 x14 x15 x16 x17 x18 x19 x20 x21 x22 x23 x24 x25 y : Option D} : List.set (x0 :: x1 :: x2 :: x3 :: x4 :: x5 :: x6 :: x7 :: x8 :: x9 :: x10 :: x11 :: x12 :: x13 :: x14 :: x15 :: x16 :: x17 :: x18 :: x19 :: x20 :: x21 :: x22 :: x23 :: x24 :: x25 :: ρ) 25 y = x0 :: x1 :: x2 :: x3 :: x4 :: x5 :: x6 :: x7 :: x8 :: x9 :: x10 :: x11 :: x12 :: x13 :: x14 :: x15 :: x16 :: x17 :: x18 :: x19 :: x20 :: x21 :: x22 :: x23 :: x24 :: y :: ρ := nrfl rfl
theorem s26 {x0 x1 x2 x3 x4 x5 x6 x7 x8 x9 x10 x11 x12 x13 x14 x15 x16 x17 x18 x19 x20 x21 x22 x23 x24 x25 x26 y : Option D} : List.set (x0 :: x1 :: x2 :: x3 :: x4 :: x5 :: x6 :: x7 :: x8 :: x9 :: x10 :: x11 :: x12 :: x13 :: x14 :: x15 :: x16 :: x17 :: x18 :: x19 :: x20 :: x21 :: x22 :: x23 :: x24 :: x25 :: x26 :: ρ) 26 y = x0 :: x1 :: x2 :: x3 :: x4 :: x5 :: x6 :: x7 :: x8 :: x9 :: x10 :: x11 :: x12 :: x13 :: x14 :: x15 :: x16 :: x17 :: x18 :: x19 :: x20 :: x21 :: x22 :: x23 :: x24 :: x25 :: y :: ρ := nrfl rfl
theorem s27 {x0 x1 x2 x3 x4 x5 x6 x7 x8 x9 x10 x11 x12 x13 x14 x15 x16 x17 x18 x19 x20 x21 x22 x23 x24 x25 x26 x27 y : Option D} : List.set (x0 :: x1 :: x2 :: x3 :: x4 :: x5 :: x6 :: x7 :: x8 :: x9 :: x10 :: x11 :: x12 :: x13 :: x14 :: x15 :: x16 :: x17 :: x18 :: x19 :: x20 :: x21 :: x22 :: x23 :: x24 :: x25 :: x26 :: x27 :: ρ) 27 y = x0 :: x1 :: x2 :: x3 :: x4 :: x5 :: x6 :: x7 :: x8 :: x9 :: x10 :: x11 :: x12 :: x13 :: x14 :: x15 :: x16 :: x17 :: x18 :: x19 :: x20 :: x21 :: x22 :: x23 :: x24 :: x25 :: x26 :: y :: ρ := nrfl rfl
theorem s28 {x0 x1 x2 x3 x4 x5 x6 x7 x8 x9 x10 x11 x12 x13 x14 x15 x16 x17 x18 x19 x20 x21 x22 x23 x24 x25 x26 x27 x28 y : Option D} : List.set (x0 :: x1 :: x2 :: x3 :: x4 :: x5 :: x6 :: x7 :: x8 :: x9 :: x10 :: x11 :: x12 :: x13 :: x14 :: x15 :: x16 :: x17 :: x18 :: x19 :: x20 :: x21 :: x22 :: x23 :: x24 :: x25 :: x26 :: x27 :: x28 :: ρ) 28 y = x0 :: x1 :: x2 :: x3 :: x4 :: x5 :: x6 :: x7 :: x8 :: x9 :: x10 :: x11 :: x12 :: x13 :: x14 :: x15 :: x16 :: x17 :: x18 :: x19 :: x20 :: x21 :: x22 :: x23 :: x24 :: x25 :: x26 :: x27 :: y :: ρ := nrfl rfl
theorem s29 {x0 x1 x2 x3 x4 x5 x6 x7 x8 x9 x10 x11 x12 x13 x14 x15 x16 x17 x18 x19 x20 x21 x22 x23 x24 x25 x26 x27 x28 x29 y : Option D} : List.set (x0 :: x1 :: x2 :: x3 :: x4 :: x5 :: x6 :: x7 :: x8 :: x9 :: x10 :: x11 :: x12 :: x13 :: x14 :: x15 :: x16 :: x17 :: x18 :: x19 :: x20 :: x21 :: x22 :: x23 :: x24 :: x25 :: x26 :: x27 :: x28 :: x29 :: ρ) 29 y = x0 :: x1 :: x2 :: x3 :: x4 :: x5 :: x6 :: x7 :: x8 :: x9 :: x10 :: x11 :: x12 :: x13 :: x14 :: x15 :: x16 :: x17 :: x18 :: x19 :: x20 :: x21 :: x22 :: x23 :: x24 :: x25 :: x26 :: x27 :: x28 :: y :: ρ := nrfl rfl
theorem startD_cons {n : Nat} {ds : List D} : startD (n + 1) (d :: ds) = some d :: startD n ds := by simp [startD]
theorem startD_nil {n : Nat} : startD (n + 1) [] = none :: startD n [] := by simp [startD, List.replicate_succ]
theorem startD_zero : startD 0 [] = [] := rfl
theorem a_nm {i : Nat} : wAsg (.nm i) ρ N d S = N (ρ.set i (some d)) S := nrfl rfl
theorem a_tp1 {i0 : Nat} {d0 : D} : wAsg (.tp [.nm i0]) ρ N (.tup [d0]) S = N (ρ.set i0 (some d0)) S := nrfl rfl
theorem a_tp2 {i0 i1 : Nat} {d0 d1 : D} : wAsg (.tp [.nm i0, .nm i1]) ρ N (.tup [d0, d1]) S = N ((ρ.set i0 (some d0)).set i1 (some d1)) S := nrfl rfl
theorem a_tp3 {i0 i1 i2 : Nat} {d0 d1 d2 : D} : wAsg (.tp [.nm i0, .nm i1, .nm i2]) ρ N (.tup [d0, d1, d2]) S = N (((ρ.set i0 (some d0)).set i1 (some d1)).set i2 (some d2)) S := nrfl rfl
theorem a_tp4 {i0 i1 i2 i3 : Nat} {d0 d1 d2 d3 : D} : wAsg (.tp [.nm i0, .nm i1, .nm i2, .nm i3]) ρ N (.tup [d0, d1, d2, d3]) S = N ((((ρ.set i0 (some d0)).set i1 (some d1)).set i2 (some d2)).set i3 (some d3)) S := nrfl rfl
theorem a_tp5 {i0 i1 i2 i3 i4 : Nat} {d0 d1 d2 d3 d4 : D} : wAsg (.tp [.nm i0, .nm i1, .nm i2, .nm i3, .nm i4]) ρ N (.tup [d0, d1, d2, d3, d4]) S = N (((((ρ.set i0 (some d0)).set i1 (some d1)).set i2 (some d2)).set i3 (some d3)).set i4 (some d4)) S := nrfl rfl
theorem a_tpn {i0 i1 i2 : Nat} {d0 d1 d2 : D} : wAsg (.tp [.nm i0, .tp [.nm i1, .nm i2]]) ρ N (.tup [d0, .tup [d1, d2]]) S = N (((ρ.set i0 (some d0)).set i1 (some d1)).set i2 (some d2)) S := nrfl rfl
theorem a_tpm {i0 i1 i2 : Nat} {d0 d1 d2 : D} : wAsg (.tp [.tp [.nm i1, .nm i2], .nm i0]) ρ N (.tup [.tup [d1, d2], d0]) S = N (((ρ.set i1 (some d1)).set i2 (some d2)).set i0 (some d0)) S := nrfl rfl
theorem a_encP {i0 i1 : Nat} {p : Int × Int} : wAsg (.tp [.nm i0, .nm i1]) ρ N (encP p) S = N ((ρ.set i0 (some (.int p.1))).set i1 (some (.int p.2))) S := nrfl rfl
theorem wipe_nil : wipeD ρ [] = ρ := nrfl rfl
theorem wipe_cons {v : Nat} {vs : List Nat} : wipeD ρ (v :: vs) = (wipeD ρ vs).set v none := rfl
theorem o_add : dAdd (.int i) (.int j) S = some (.int (i + j)) := nrfl rfl
theorem o_sub : dSub (.int i) (.int j) S = some (.int (i - j)) := nrfl rfl
theorem o_neg : dNeg (.int i) S = some (.int (-i)) := nrfl rfl
theorem o_ite {c : Prop} [Decidable c] {a : α} {Q : α → Cells → Prop} : wpo (if c then some a else none) S Q = (c ∧ Q a S) := by
  by_cases h : c
  · rw [if_pos h]; exact propext ⟨fun q => ⟨h, q⟩, fun q => q.2⟩
  · rw [if_neg h]; exact propext ⟨fun q => q.elim, fun q => absurd q.1 h⟩
theorem o_mul : wpo (dMul (.int i) (.int j) S) S' Q = (okMul i j = true ∧ Q (.int (i * j)) S') := o_ite
def okDiv (j : Int) : Prop := 0 < j ∧ j.natAbs.log2 < 9000
theorem o_div : wpo (dDiv (.int i) (.int j) S) S' Q = (okDiv j ∧ Q (.int (i / j)) S') := o_ite
theorem o_mod : wpo (dMod (.int i) (.int j) S) S' Q = (0 < j ∧ Q (.int (i % j)) S') := o_ite
def okPow (i j : Int) : Prop := 0 ≤ j ∧ (Builtin.Int.intBits i : Int) * j ≤ 2 ^ 27
theorem o_pow : wpo (dPow (.int i) (.int j) S) S' Q = (okPow i j ∧ Q (.int (i ^ j.toNat)) S') := o_ite
theorem o_p10_3 : wpo (dPow (.int 10) (.int 3) S) S' Q = Q (.int 1000) S' := by rw [show dPow (.int 10) (.int 3) S = some (.int 1000) by kernel_rfl]; rfl
theorem o_p10_4 : wpo (dPow (.int 10) (.int 4) S) S' Q = Q (.int 10000) S' := by rw [show dPow (.int 10) (.int 4) S = some (.int 10000) by kernel_rfl]; rfl
theorem o_p10_6 : wpo (dPow (.int 10) (.int 6) S) S' Q = Q (.int 1000000) S' := by rw [show dPow (.int 10) (.int 6) S = some (.int 1000000) by kernel_rfl]; rfl
theorem o_p10_8 : wpo (dPow (.int 10) (.int 8) S) S' Q = Q (.int 100000000) S' := by rw [show dPow (.int 10) (.int 8) S = some (.int 100000000) by kernel_rfl]; rfl
theorem o_p10_9 : wpo (dPow (.int 10) (.int 9) S) S' Q = Q (.int 1000000000) S' := by rw [show dPow (.int 10) (.int 9) S = some (.int 1000000000) by kernel_rfl]; rfl
theorem o_p10_12 : wpo (dPow (.int 10) (.int 12) S) S' Q = Q (.int 1000000000000) S' := by rw [show dPow (.int 10) (.int 12) S = some (.int 1000000000000) by kernel_rfl]; rfl
theorem o_p10_15 : wpo (dPow (.int 10) (.int 15) S) S' Q = Q (.int 1000000000000000) S' := by rw [show dPow (.int 10) (.int 15) S = some (.int 1000000000000000) by kernel_rfl]; rfl
theorem o_p10_18 : wpo (dPow (.int 10) (.int 18) S) S' Q = Q (.int 1000000000000000000) S' := by rw [show dPow (.int 10) (.int 18) S = some (.int 1000000000000000000) by kernel_rfl]; rfl
theorem o_p10_20 : wpo (dPow (.int 10) (.int 20) S) S' Q = Q (.int 100000000000000000000) S' := by rw [show dPow (.int 10) (.int 20) S = some (.int 100000000000000000000) by kernel_rfl]; rfl
theorem o_p10_25 : wpo (dPow (.int 10) (.int 25) S) S' Q = Q (.int 10000000000000000000000000) S' := by rw [show dPow (.int 10) (.int 25) S = some (.int 10000000000000000000000000) by kernel_rfl]; rfl
theorem o_p10_26 : wpo (dPow (.int 10) (.int 26) S) S' Q = Q (.int 100000000000000000000000000) S' := by rw [show dPow (.int 10) (.int 26) S = some (.int 100000000000000000000000000) by kernel_rfl]; rfl
theorem o_p10_27 : wpo (dPow (.int 10) (.int 27) S) S' Q = Q (.int 1000000000000000000000000000) S' := by rw [show dPow (.int 10) (.int 27) S = some (.int 1000000000000000000000000000) by kernel_rfl]; rfl
theorem o_p10_28 : wpo (dPow (.int 10) (.int 28) S) S' Q = Q (.int 10000000000000000000000000000) S' := by rw [show dPow (.int 10) (.int 28) S = some (.int 10000000000000000000000000000) by kernel_rfl]; rfl
theorem o_p10_29 : wpo (dPow (.int 10) (.int 29) S) S' Q = Q (.int 100000000000000000000000000000) S' := by rw [show dPow (.int 10) (.int 29) S = some (.int 100000000000000000000000000000) by kernel_rfl]; rfl
theorem o_p10_30 : wpo (dPow (.int 10) (.int 30) S) S' Q = Q (.int 1000000000000000000000000000000) S' := by rw [show dPow (.int 10) (.int 30) S = some (.int 1000000000000000000000000000000) by kernel_rfl]; rfl
theorem o_p10_31 : wpo (dPow (.int 10) (.int 31) S) S' Q = Q (.int 10000000000000000000000000000000) S' := by rw [show dPow (.int 10) (.int 31) S = some (.int 10000000000000000000000000000000) by kernel_rfl]; rfl
theorem o_p10_36 : wpo (dPow (.int 10) (.int 36) S) S' Q = Q (.int 1000000000000000000000000000000000000) S' := by rw [show dPow (.int 10) (.int 36) S = some (.int 1000000000000000000000000000000000000) by kernel_rfl]; rfl
theorem o_p10_38 : wpo (dPow (.int 10) (.int 38) S) S' Q = Q (.int 100000000000000000000000000000000000000) S' := by rw [show dPow (.int 10) (.int 38) S = some (.int 100000000000000000000000000000000000000) by kernel_rfl]; rfl
theorem o_p10_40 : wpo (dPow (.int 10) (.int 40) S) S' Q = Q (.int 10000000000000000000000000000000000000000) S' := by rw [show dPow (.int 10) (.int 40) S = some (.int 10000000000000000000000000000000000000000) by kernel_rfl]; rfl
theorem o_p10_42 : wpo (dPow (.int 10) (.int 42) S) S' Q = Q (.int 1000000000000000000000000000000000000000000) S' := by rw [show dPow (.int 10) (.int 42) S = some (.int 1000000000000000000000000000000000000000000) by kernel_rfl]; rfl
theorem o_p10_44 : wpo (dPow (.int 10) (.int 44) S) S' Q = Q (.int 100000000000000000000000000000000000000000000) S' := by rw [show dPow (.int 10) (.int 44) S = some (.int 100000000000000000000000000000000000000000000) by kernel_rfl]; rfl
theorem o_p10_46 : wpo (dPow (.int 10) (.int 46) S) S' Q = Q (.int 10000000000000000000000000000000000000000000000) S' := by rw [show dPow (.int 10) (.int 46) S = some (.int 10000000000000000000000000000000000000000000000) by kernel_rfl]; rfl
theorem o_p10_48 : wpo (dPow (.int 10) (.int 48) S) S' Q = Q (.int 1000000000000000000000000000000000000000000000000) S' := by rw [show dPow (.int 10) (.int 48) S = some (.int 1000000000000000000000000000000000000000000000000) by kernel_rfl]; rfl
theorem o_p10_50 : wpo (dPow (.int 10) (.int 50) S) S' Q = Q (.int 100000000000000000000000000000000000000000000000000) S' := by rw [show dPow (.int 10) (.int 50) S = some (.int 100000000000000000000000000000000000000000000000000) by kernel_rfl]; rfl
theorem o_p10_60 : wpo (dPow (.int 10) (.int 60) S) S' Q = Q (.int 1000000000000000000000000000000000000000000000000000000000000) S' := by rw [show dPow (.int 10) (.int 60) S = some (.int 1000000000000000000000000000000000000000000000000000000000000) by kernel_rfl]; rfl
theorem o_p10_64 : wpo (dPow (.int 10) (.int 64) S) S' Q = Q (.int 10000000000000000000000000000000000000000000000000000000000000000) S' := by rw [show dPow (.int 10) (.int 64) S = some (.int 10000000000000000000000000000000000000000000000000000000000000000) by kernel_rfl]; rfl
theorem o_p10_70 : wpo (dPow (.int 10) (.int 70) S) S' Q = Q (.int 10000000000000000000000000000000000000000000000000000000000000000000000) S' := by rw [show dPow (.int 10) (.int 70) S = some (.int 10000000000000000000000000000000000000000000000000000000000000000000000) by kernel_rfl]; rfl
theorem o_p10_90 : wpo (dPow (.int 10) (.int 90) S) S' Q = Q (.int 1000000000000000000000000000000000000000000000000000000000000000000000000000000000000000000) S' := by rw [show dPow (.int 10) (.int 90) S = some (.int 1000000000000000000000000000000000000000000000000000000000000000000000000000000000000000000) by kernel_rfl]; rfl
theorem o_p10_99 : wpo (dPow (.int 10) (.int 99) S) S' Q = Q (.int 1000000000000000000000000000000000000000000000000000000000000000000000000000000000000000000000000000) S' := by rw [show dPow (.int 10) (.int 99) S = some (.int 1000000000000000000000000000000000000000000000000000000000000000000000000000000000000000000000000000) by kernel_rfl]; rfl
theorem o_p10_100 : wpo (dPow (.int 10) (.int 100) S) S' Q = Q (.int 10000000000000000000000000000000000000000000000000000000000000000000000000000000000000000000000000000) S' := by rw [show dPow (.int 10) (.int 100) S = some (.int 10000000000000000000000000000000000000000000000000000000000000000000000000000000000000000000000000000) by kernel_rfl]; rfl
theorem o_addS : wpo (dAdd (.str x) (.str y) S) S' Q = (x.length + y.length ≤ sizeLine ∧ Q (.str (x ++ y)) S') := o_ite
theorem o_addT : wpo (dAdd (.tup l) (.tup m) S) S' Q = (l.length + m.length ≤ sizeLine ∧ Q (.tup (l ++ m)) S') := o_ite
theorem o_catL : wpo (catL (.lst l) (.lst m) S) S' QL = (l.length + m.length ≤ sizeLine ∧ QL (l ++ m) S') := o_ite
theorem o_addL : wpo (dAdd (.lst l) (.lst m) S) S' Q = (l.length + m.length ≤ sizeLine ∧ Q (.lst (l ++ m)) S') := by
  show wpo ((catL (.lst l) (.lst m) S).map .lst) S' Q = _
  show wpo ((if l.length + m.length ≤ sizeLine then some (l ++ m) else none).map .lst) S' Q = _
  by_cases h : l.length + m.length ≤ sizeLine
  · rw [if_pos h]; exact propext ⟨fun q => ⟨h, q⟩, fun q => q.2⟩
  · rw [if_neg h]; exact propext ⟨fun q => q.elim, fun q => absurd q.1 h⟩
theorem o_lt : dLt (.int i) (.int j) S = some (.bl (decide (i < j))) := nrfl rfl
theorem o_le : dLe (.int i) (.int j) S = some (.bl (decide (i ≤ j))) := nrfl rfl
theorem o_gt : dGt (.int i) (.int j) S = some (.bl (decide (j < i))) := nrfl rfl
theorem o_ge : dGe (.int i) (.int j) S = some (.bl (decide (j ≤ i))) := nrfl rfl
theorem o_eqI : dEq (.int i) (.int j) S = some (.bl (decide (i = j))) := dEq_int
theorem o_neI : dNe (.int i) (.int j) S = some (.bl (!decide (i = j))) := dNe_int
theorem o_eqS : dEq (.str x) (.str y) S = some (.bl (decide (x = y))) := nrfl rfl
theorem o_neS : dNe (.str x) (.str y) S = some (.bl (!decide (x = y))) := nrfl rfl
theorem o_is : dIs d .non S = some (.bl (isNon d)) := nrfl rfl
theorem o_isn : dIsNot d .non S = some (.bl (!isNon d)) := nrfl rfl
theorem n_non : isNon .non = true := nrfl rfl
theorem n_bl {b : Bool} : isNon (.bl b) = false := nrfl rfl
theorem n_int : isNon (.int i) = false := nrfl rfl
theorem n_str : isNon (.str x) = false := nrfl rfl
theorem n_lst : isNon (.lst l) = false := nrfl rfl
theorem n_tup : isNon (.tup l) = false := nrfl rfl
theorem n_ref {n : Nat} : isNon (.ref n) = false := nrfl rfl
theorem n_obj {n : Nat} : isNon (.obj n l) = false := nrfl rfl
theorem i_non_int : isiD tabInt .non S = some (.bl false) := nrfl rfl
theorem i_non_bool : isiD (tabIs "bool") .non S = some (.bl false) := nrfl rfl
theorem i_non_str : isiD (tabIs "str") .non S = some (.bl false) := nrfl rfl
theorem i_non_list : isiD (tabIs "list") .non S = some (.bl false) := nrfl rfl
theorem i_non_tuple : isiD (tabIs "tuple") .non S = some (.bl false) := nrfl rfl
theorem i_bl_int {b : Bool} : isiD tabInt (.bl b) S = some (.bl true) := nrfl rfl
theorem i_bl_bool {b : Bool} : isiD (tabIs "bool") (.bl b) S = some (.bl true) := nrfl rfl
theorem i_bl_str {b : Bool} : isiD (tabIs "str") (.bl b) S = some (.bl false) := nrfl rfl
theorem i_bl_list {b : Bool} : isiD (tabIs "list") (.bl b) S = some (.bl false) := nrfl rfl
theorem i_bl_tuple {b : Bool} : isiD (tabIs "tuple") (.bl b) S = some (.bl false) := nrfl rfl
theorem i_int_int : isiD tabInt (.int i) S = some (.bl true) := nrfl rfl
theorem i_int_bool : isiD (tabIs "bool") (.int i) S = some (.bl false) := nrfl rfl
theorem i_int_str : isiD (tabIs "str") (.int i) S = some (.bl false) := nrfl rfl
theorem i_int_list : isiD (tabIs "list") (.int i) S = some (.bl false) := nrfl rfl
theorem i_int_tuple : isiD (tabIs "tuple") (.int i) S = some (.bl false) := nrfl rfl
theorem i_str_int : isiD tabInt (.str x) S = some (.bl false) := nrfl rfl
theorem i_str_bool : isiD (tabIs "bool") (.str x) S = some (.bl false) := nrfl rfl
theorem i_str_str : isiD (tabIs "str") (.str x) S = some (.bl true) := nrfl rfl
theorem i_str_list : isiD (tabIs "list") (.str x) S = some (.bl false) := nrfl rfl
theorem i_str_tuple : isiD (tabIs "tuple") (.str x) S = some (.bl false) := nrfl rfl
theorem i_lst_int : isiD tabInt (.lst l) S = some (.bl false) := nrfl rfl
theorem i_lst_bool : isiD (tabIs "bool") (.lst l) S = some (.bl false) := nrfl rfl
theorem i_lst_str : isiD (tabIs "str") (.lst l) S = some (.bl false) := nrfl rfl
theorem i_lst_list : isiD (tabIs "list") (.lst l) S = some (.bl true) := nrfl rfl
theorem i_lst_tuple : isiD (tabIs "tuple") (.lst l) S = some (.bl false) := nrfl rfl
theorem i_tup_int : isiD tabInt (.tup l) S = some (.bl false) := nrfl rfl
theorem i_tup_bool : isiD (tabIs "bool") (.tup l) S = some (.bl false) := nrfl rfl
theorem i_tup_str : isiD (tabIs "str") (.tup l) S = some (.bl false) := nrfl rfl
theorem i_tup_list : isiD (tabIs "list") (.tup l) S = some (.bl false) := nrfl rfl
theorem i_tup_tuple : isiD (tabIs "tuple") (.tup l) S = some (.bl true) := nrfl rfl
theorem t_non : truD .non S = some false := nrfl rfl
theorem t_bl {b : Bool} : truD (.bl b) S = some b := nrfl rfl
theorem t_int : truD (.int i) S = some (!decide (i = 0)) := by
  show some (i != 0) = some (!decide (i = 0))
  have : (i != 0) = !decide (i = 0) := by rw [Bool.eq_iff_iff]; simp
  rw [this]
theorem t_lst : truD (.lst l) S = some (!l.isEmpty) := nrfl rfl
theorem t_tup : truD (.tup l) S = some (!l.isEmpty) := nrfl rfl
def wAt (l : List D) (k : Int) (S : Cells) (Q : D → Cells → Prop) : Prop := ∃ d, atI l k = some d ∧ Q d S
theorem wAt_of {o : Option D} : wpo o S Q = ∃ d, o = some d ∧ Q d S := by
  cases o with
  | none => exact propext ⟨fun q => q.elim, fun ⟨_, e, _⟩ => nomatch e⟩
  | some a => exact propext ⟨fun q => ⟨a, rfl, q⟩, fun ⟨_, e, q⟩ => by cases e; exact q⟩
theorem x_lst : wpo (ixD (.lst l) (.int k) S) S' Q = wAt l k S' Q := wAt_of
theorem x_tup : wpo (ixD (.tup l) (.int k) S) S' Q = wAt l k S' Q := wAt_of
theorem x_encP0 {p : Int × Int} : wpo (ixD (encP p) (.int 0) S) S' Q = Q (.int p.1) S' := nrfl rfl
theorem x_encP1 {p : Int × Int} : wpo (ixD (encP p) (.int 1) S) S' Q = Q (.int p.2) S' := nrfl rfl
theorem wAt_some {k : Int} (h : atI l k = some d) : wAt l k S Q = Q d S := propext ⟨fun ⟨_, e, q⟩ => by rw [h] at e; cases e; exact q, fun q => ⟨d, h, q⟩⟩
theorem ixn1_0 : ixN 1 0 = some 0 := nrfl rfl
theorem ixn1_m1 : ixN 1 (-1) = some 0 := nrfl rfl
theorem ixn2_0 : ixN 2 0 = some 0 := nrfl rfl
theorem ixn2_1 : ixN 2 1 = some 1 := nrfl rfl
theorem ixn2_m1 : ixN 2 (-1) = some 1 := nrfl rfl
theorem ixn3_0 : ixN 3 0 = some 0 := nrfl rfl
theorem ixn3_1 : ixN 3 1 = some 1 := nrfl rfl
theorem ixn3_2 : ixN 3 2 = some 2 := nrfl rfl
theorem ixn3_m1 : ixN 3 (-1) = some 2 := nrfl rfl
theorem ixn4_0 : ixN 4 0 = some 0 := nrfl rfl
theorem ixn4_1 : ixN 4 1 = some 1 := nrfl rfl
theorem ixn4_2 : ixN 4 2 = some 2 := nrfl rfl
theorem ixn4_3 : ixN 4 3 = some 3 := nrfl rfl
theorem ixn4_m1 : ixN 4 (-1) = some 3 := nrfl rfl
theorem ixn5_0 : ixN 5 0 = some 0 := nrfl rfl
theorem ixn5_1 : ixN 5 1 = some 1 := nrfl rfl
theorem ixn5_2 : ixN 5 2 = some 2 := nrfl rfl
theorem ixn5_3 : ixN 5 3 = some 3 := nrfl rfl
theorem ixn5_4 : ixN 5 4 = some 4 := nrfl rfl
theorem ixn5_m1 : ixN 5 (-1) = some 4 := nrfl rfl
theorem ixn6_0 : ixN 6 0 = some 0 := nrfl rfl
theorem ixn6_1 : ixN 6 1 = some 1 := nrfl rfl
theorem ixn6_2 : ixN 6 2 = some 2 := nrfl rfl
theorem ixn6_3 : ixN 6 3 = some 3 := nrfl rfl
theorem ixn6_4 : ixN 6 4 = some 4 := nrfl rfl
theorem ixn6_5 : ixN 6 5 = some 5 := nrfl rfl
theorem ixn6_m1 : ixN 6 (-1) = some 5 := nrfl rfl
theorem ixn7_0 : ixN 7 0 = some 0 := nrfl rfl
theorem ixn7_1 : ixN 7 1 = some 1 := nrfl rfl
theorem ixn7_2 : ixN 7 2 = some 2 := nrfl rfl
theorem ixn7_3 : ixN 7 3 = some 3 := nrfl rfl
theorem ixn7_4 : ixN 7 4 = some 4 := nrfl rfl
theorem ixn7_5 : ixN 7 5 = some 5 := nrfl rfl
theorem ixn7_6 : ixN 7 6 = some 6 := nrfl rfl
theorem ixn7_m1 : ixN 7 (-1) = some 6 := nrfl rfl
theorem ixn8_0 : ixN 8 0 = some 0 := nrfl rfl
theorem ixn8_1 : ixN 8 1 = some 1 := nrfl rfl
theorem ixn8_2 : ixN 8 2 = some 2 := nrfl rfl
theorem ixn8_3 : ixN 8 3 = some 3 := nrfl rfl
theorem ixn8_4 : ixN 8 4 = some 4 := nrfl rfl
theorem ixn8_5 : ixN 8 5 = some 5 := nrfl rfl
theorem ixn8_6 : ixN 8 6 = some 6 := nrfl rfl
theorem ixn8_7 : ixN 8 7 = some 7 := nrfl rfl
theorem ixn8_m1 : ixN 8 (-1) = some 7 := nrfl rfl
theorem x1_0 {d0 : D} : wAt [d0] 0 S Q = Q d0 S := wAt_some rfl
theorem x1_m1 {d0 : D} : wAt [d0] (-1) S Q = Q d0 S := wAt_some rfl
theorem x2_0 {d0 d1 : D} : wAt [d0, d1] 0 S Q = Q d0 S := wAt_some rfl
theorem x2_1 {d0 d1 : D} : wAt [d0, d1] 1 S Q = Q d1 S := wAt_some rfl
theorem x2_m1 {d0 d1 : D} : wAt [d0, d1] (-1) S Q = Q d1 S := wAt_some rfl
theorem at_2 {d0 d1 : D} (h0' : 0 ≤ k) (h1' : k < 2) (h0 : k = 0 → Q d0 S) (h1 : k = 1 → Q d1 S) : wAt [d0, d1] k S Q := by
  have e : k = (k.toNat : Int) := by omega
  unfold wAt
  rw [e]
  match q : k.toNat with
  | 0 => exact ⟨_, rfl, h0 (by omega)⟩
  | 1 => exact ⟨_, rfl, h1 (by omega)⟩
  | n + 2 => exfalso; omega
theorem x3_0 {d0 d1 d2 : D} : wAt [d0, d1, d2] 0 S Q = Q d0 S := wAt_some rfl
theorem x3_1 {d0 d1 d2 : D} : wAt [d0, d1, d2] 1 S Q = Q d1 S := wAt_some rfl
theorem x3_2 {d0 d1 d2 : D} : wAt [d0, d1, d2] 2 S Q = Q d2 S := wAt_some rfl
theorem x3_m1 {d0 d1 d2 : D} : wAt [d0, d1, d2] (-1) S Q = Q d2 S := wAt_some rfl
theorem at_3 {d0 d1 d2 : D} (h0' : 0 ≤ k) (h1' : k < 3) (h0 : k = 0 → Q d0 S) (h1 : k = 1 → Q d1 S) (h2 : k = 2 → Q d2 S) : wAt [d0, d1, d2] k S Q := by
  have e : k = (k.toNat : Int) := by omega
  unfold wAt
  rw [e]
  match q : k.toNat with
  | 0 => exact ⟨_, rfl, h0 (by omega)⟩
  | 1 => exact ⟨_, rfl, h1 (by omega)⟩
  | 2 => exact ⟨_, rfl, h2 (by omega)⟩
  | n + 3 => exfalso; omega
theorem x4_0 {d0 d1 d2 d3 : D} : wAt [d0, d1, d2, d3] 0 S Q = Q d0 S := wAt_some rfl
theorem x4_1 {d0 d1 d2 d3 : D} : wAt [d0, d1, d2, d3] 1 S Q = Q d1 S := wAt_some rfl
theorem x4_2 {d0 d1 d2 d3 : D} : wAt [d0, d1, d2, d3] 2 S Q = Q d2 S := wAt_some rfl
theorem x4_3 {d0 d1 d2 d3 : D} : wAt [d0, d1, d2, d3] 3 S Q = Q d3 S := wAt_some rfl
theorem x4_m1 {d0 d1 d2 d3 : D} : wAt [d0, d1, d2, d3] (-1) S Q = Q d3 S := wAt_some rfl
theorem x5_0 {d0 d1 d2 d3 d4 : D} : wAt [d0, d1, d2, d3, d4] 0 S Q = Q d0 S := wAt_some rfl
theorem x5_1 {d0 d1 d2 d3 d4 : D} : wAt [d0, d1, d2, d3, d4] 1 S Q = Q d1 S := wAt_some rfl
theorem x5_2 {d0 d1 d2 d3 d4 : D} : wAt [d0, d1, d2, d3, d4] 2 S Q = Q d2 S := wAt_some rfl
theorem x5_3 {d0 d1 d2 d3 d4 : D} : wAt [d0, d1, d2, d3, d4] 3 S Q = Q d3 S := wAt_some rfl
theorem x5_4 {d0 d1 d2 d3 d4 : D} : wAt [d0, d1, d2, d3, d4] 4 S Q = Q d4 S := wAt_some rfl
theorem x5_m1 {d0 d1 d2 d3 d4 : D} : wAt [d0, d1, d2, d3, d4] (-1) S Q = Q d4 S := wAt_some rfl
theorem x6_0 {d0 d1 d2 d3 d4 d5 : D} : wAt [d0, d1, d2, d3, d4, d5] 0 S Q = Q d0 S := wAt_some rfl
theorem x6_1 {d0 d1 d2 d3 d4 d5 : D} : wAt [d0, d1, d2, d3, d4, d5] 1 S Q = Q d1 S := wAt_some rfl
theorem x6_2 {d0 d1 d2 d3 d4 d5 : D} : wAt [d0, d1, d2, d3, d4, d5] 2 S Q = Q d2 S := wAt_some rfl
theorem x6_3 {d0 d1 d2 d3 d4 d5 : D} : wAt [d0, d1, d2, d3, d4, d5] 3 S Q = Q d3 S := wAt_some rfl
theorem x6_4 {d0 d1 d2 d3 d4 d5 : D} : wAt [d0, d1, d2, d3, d4, d5] 4 S Q = Q d4 S := wAt_some rfl
theorem x6_5 {d0 d1 d2 d3 d4 d5 : D} : wAt [d0, d1, d2, d3, d4, d5] 5 S Q = Q d5 S := wAt_some rfl
theorem x6_m1 {d0 d1 d2 d3 d4 d5 : D} : wAt [d0, d1, d2, d3, d4, d5] (-1) S Q = Q d5 S := wAt_some rfl
theorem x7_0 {d0 d1 d2 d3 d4 d5 d6 : D} : wAt [d0, d1, d2, d3, d4, d5, d6] 0 S Q = Q d0 S := wAt_some rfl
theorem x7_1 {d0 d1 d2 d3 d4 d5 d6 : D} : wAt [d0, d1, d2, d3, d4, d5, d6] 1 S Q = Q d1 S := wAt_some rfl
theorem x7_2 {d0 d1 d2 d3 d4 d5 d6 : D} : wAt [d0, d1, d2, d3, d4, d5, d6] 2 S Q = Q d2 S := wAt_some rfl
theorem x7_3 {d0 d1 d2 d3 d4 d5 d6 : D} : wAt [d0, d1, d2, d3, d4, d5, d6] 3 S Q = Q d3 S := wAt_some rfl
theorem x7_4 {d0 d1 d2 d3 d4 d5 d6 : D} : wAt [d0, d1, d2, d3, d4, d5, d6] 4 S Q = Q d4 S := wAt_some rfl
theorem x7_5 {d0 d1 d2 d3 d4 d5 d6 : D} : wAt [d0, d1, d2, d3, d4, d5, d6] 5 S Q = Q d5 S := wAt_some rfl
theorem x7_6 {d0 d1 d2 d3 d4 d5 d6 : D} : wAt [d0, d1, d2, d3, d4, d5, d6] 6 S Q = Q d6 S := wAt_some rfl
theorem x7_m1 {d0 d1 d2 d3 d4 d5 d6 : D} : wAt [d0, d1, d2, d3, d4, d5, d6] (-1) S Q = Q d6 S := wAt_some rfl
theorem x8_0 {d0 d1 d2 d3 d4 d5 d6 d7 : D} : wAt [d0, d1, d2, d3, d4, d5, d6, d7] 0 S Q = Q d0 S := wAt_some rfl
theorem x8_1 {d0 d1 d2 d3 d4 d5 d6 d7 : D} : wAt [d0, d1, d2, d3, d4, d5, d6, d7] 1 S Q = Q d1 S := wAt_some rfl
theorem x8_2 {d0 d1 d2 d3 d4 d5 d6 d7 : D} : wAt [d0, d1, d2, d3, d4, d5, d6, d7] 2 S Q = Q d2 S := wAt_some rfl
theorem x8_3 {d0 d1 d2 d3 d4 d5 d6 d7 : D} : wAt [d0, d1, d2, d3, d4, d5, d6, d7] 3 S Q = Q d3 S := wAt_some rfl
theorem x8_4 {d0 d1 d2 d3 d4 d5 d6 d7 : D} : wAt [d0, d1, d2, d3, d4, d5, d6, d7] 4 S Q = Q d4 S := wAt_some rfl
theorem x8_5 {d0 d1 d2 d3 d4 d5 d6 d7 : D} : wAt [d0, d1, d2, d3, d4, d5, d6, d7] 5 S Q = Q d5 S := wAt_some rfl
theorem x8_6 {d0 d1 d2 d3 d4 d5 d6 d7 : D} : wAt [d0, d1, d2, d3, d4, d5, d6, d7] 6 S Q = Q d6 S := wAt_some rfl
theorem x8_7 {d0 d1 d2 d3 d4 d5 d6 d7 : D} : wAt [d0, d1, d2, d3, d4, d5, d6, d7] 7 S Q = Q d7 S := wAt_some rfl
theorem x8_m1 {d0 d1 d2 d3 d4 d5 d6 d7 : D} : wAt [d0, d1, d2, d3, d4, d5, d6, d7] (-1) S Q = Q d7 S := wAt_some rfl
theorem c_abs : dAbs [.int i] S = some (.int (if i < 0 then -i else i)) := nrfl rfl
theorem c_max2 : dMax2 [.int i, .int j] S = some (.int (if j > i then j else i)) := nrfl rfl
theorem c_min2 : dMin2 [.int i, .int j] S = some (.int (if j < i then j else i)) := nrfl rfl
theorem c_int : dInt [.int i] S = some (.int i) := nrfl rfl
theorem c_intb {b : Bool} : dInt [.bl b] S = some (.int (if b then 1 else 0)) := nrfl rfl
theorem c_lenS : dLen [.str x] S = some (.int x.length) := nrfl rfl
theorem c_lenT : dLen [.tup l] S = some (.int l.length) := nrfl rfl
theorem c_lenL : dLen [.lst l] S = some (.int l.length) := nrfl rfl
theorem c_listT : dListOf [.tup l] S = some l := nrfl rfl
theorem c_listL : dListOf [.lst l] S = some l := nrfl rfl
theorem c_tupT : dTupleOf [.tup l] S = some (.tup l) := nrfl rfl
theorem c_tupL : dTupleOf [.lst l] S = some (.tup l) := nrfl rfl
theorem c_sum {γ : Type} {f : γ → Int} {l : List γ} : dSum [.lst (l.map fun x => D.int (f x))] S = some (.int (l.map f).sum) := by
  have e : (l.map fun x => D.int (f x)) = (l.map f).map .int := by rw [List.map_map]; rfl
  rw [e]
  exact sum_ints _
theorem c_sum0 : dSum [.lst []] S = some (.int 0) := nrfl rfl
theorem blsM {γ : Type} {f : γ → Bool} {l : List γ} : (listOf [.lst (l.map fun x => D.bl (f x))] S).bind bls? = some (l.map f) := by
  have e : (l.map fun x => D.bl (f x)) = (l.map f).map .bl := by rw [List.map_map]; rfl
  rw [e]
  exact bls?_map _
theorem c_all {γ : Type} {f : γ → Bool} {l : List γ} : dAll [.lst (l.map fun x => D.bl (f x))] S = some (.bl (l.all f)) := by
  unfold dAll
  rw [blsM]
  show some (D.bl ((l.map f).all id)) = _
  rw [List.all_map]
  rfl
theorem c_any {γ : Type} {f : γ → Bool} {l : List γ} : dAny [.lst (l.map fun x => D.bl (f x))] S = some (.bl (l.any f)) := by
  unfold dAny
  rw [blsM]
  show some (D.bl ((l.map f).any id)) = _
  rw [List.any_map]
  rfl
theorem c_minP {p : Int × Int} : dMinL [encP p] S = some (.int (if p.2 < p.1 then p.2 else p.1)) := by
  show some (D.int (if decide (p.2 < p.1) = true then p.2 else p.1)) = _
  simp
theorem c_maxP {p : Int × Int} : dMaxL [encP p] S = some (.int (if p.2 > p.1 then p.2 else p.1)) := by
  show some (D.int (if decide (p.1 < p.2) = true then p.2 else p.1)) = _
  simp
theorem c_sortP {ps : List (Int × Int)} : sortD [.lst (ps.map encP)] S = some ((sortP ps).map encP) := sortD_ps ps
theorem c_zip : zipA [.lst l, .lst m] = some (pairsD l m) := nrfl rfl
theorem c_enum : enumA [.lst l] = some (enumD l) := nrfl rfl
theorem c_range1 : range1 [.int i] = rangeD 0 i := nrfl rfl
theorem c_range2 : range2 [.int i, .int j] = rangeD i j := nrfl rfl
theorem g_lst : itemsD (.lst l) = some l := nrfl rfl
theorem g_tup : itemsD (.tup l) = some l := nrfl rfl
theorem g_str : itemsD (.str x) = some (signsD x) := nrfl rfl
theorem p_int : partD (.int i) = some (some i) := nrfl rfl
theorem sq_lst : seqL S (.lst l) = some l := nrfl rfl
theorem sl_lst {lo hi : Option Int} : slD (.lst l) lo hi S = some (.lst (cutD l lo hi)) := nrfl rfl
theorem sl_tup {lo hi : Option Int} : slD (.tup l) lo hi S = some (.tup (cutD l lo hi)) := nrfl rfl
theorem sl_str {lo hi : Option Int} : slD (.str x) lo hi S = some (.str (cutS x lo hi)) := nrfl rfl
theorem slL_lst {lo hi : Option Int} : slL (.lst l) lo hi S = some (cutD l lo hi) := nrfl rfl
theorem om_some {β γ : Type} {f : β → γ} {a : β} : (some a).map f = some (f a) := nrfl rfl
theorem range_sm {i : Int} (h0 : 0 ≤ i) (h : i ≤ sizeLine) : rangeD 0 i = some ((List.range i.toNat).map fun k => D.int (k : Nat)) := by
  unfold rangeD
  have hz : sizeLine = 16777216 := by decide
  rw [if_pos ⟨⟨by omega, by omega, by omega, by omega⟩, by omega⟩]
  simp
def atL (S : Cells) (n : Nat) (P : List D → Prop) : Prop := ∃ l, S[n]? = some ⟨true, .lst l⟩ ∧ P l
theorem atL_of {n : Nat} {P : List D → Prop} (h : S[n]? = some ⟨true, .lst l⟩) : atL S n P = P l := propext ⟨fun ⟨_, e, q⟩ => by rw [h] at e; cases e; exact q, fun q => ⟨l, h, q⟩⟩
theorem atL_new {n : Nat} {P : List D → Prop} {R : Cells} (h : S.length = n) : atL (S ++ ⟨true, .lst l⟩ :: R) n P = P l := atL_of (by rw [← h]; simp)
theorem atL_new1 {n : Nat} {c : Cell} {P : List D → Prop} {R : Cells} (h : S.length = n) : atL (S ++ c :: ⟨true, .lst l⟩ :: R) (n + 1) P = P l := atL_of (by rw [← h]; simp)
theorem atL_new2 {n : Nat} {c c' : Cell} {P : List D → Prop} {R : Cells} (h : S.length = n) : atL (S ++ c :: c' :: ⟨true, .lst l⟩ :: R) (n + 2) P = P l := atL_of (by rw [← h]; simp)
theorem atL_old {n : Nat} {P : List D → Prop} {R : Cells} (h : n < S.length) : atL (S ++ R) n P = atL S n P := by
  unfold atL
  rw [List.getElem?_append_left h]
theorem set_new {n : Nat} {c c' : Cell} {R : Cells} (h : S.length = n) : (S ++ c :: R).set n c' = S ++ c' :: R := by
  rw [← h, List.set_append_right _ _ (Nat.le_refl _), Nat.sub_self]
  rfl
theorem set_new1 {n : Nat} {c c0 c' : Cell} {R : Cells} (h : S.length = n) : (S ++ c0 :: c :: R).set (n + 1) c' = S ++ c0 :: c' :: R := by
  rw [← h, List.set_append_right _ _ (Nat.le_succ _)]
  simp
theorem set_new2 {n : Nat} {c c0 c1 c' : Cell} {R : Cells} (h : S.length = n) : (S ++ c0 :: c1 :: c :: R).set (n + 2) c' = S ++ c0 :: c1 :: c' :: R := by
  rw [← h, List.set_append_right _ _ (by omega)]
  simp
theorem set_old {n : Nat} {c' : Cell} {R : Cells} (h : n < S.length) : (S ++ R).set n c' = S.set n c' ++ R := List.set_append_left _ _ h
theorem take_app {n : Nat} {R : Cells} (h : S.length = n) : (S ++ R).take n = S := by rw [← h, List.take_left']; rfl
theorem app_app {A B C : Cells} : (A ++ B) ++ C = A ++ (B ++ C) := List.append_assoc _ _ _
theorem cons_app {c : Cell} {B C : Cells} : (c :: B) ++ C = c :: (B ++ C) := nrfl rfl
theorem nil_app {C : Cells} : [] ++ C = C := nrfl rfl
theorem len_app1 {c : Cell} : (S ++ [c]).length = S.length + 1 := by simp
theorem len_app2 {c c1 : Cell} : (S ++ [c, c1]).length = S.length + 2 := by simp
theorem len_app3 {c c1 c2 : Cell} : (S ++ [c, c1, c2]).length = S.length + 3 := by simp
theorem len_set {n : Nat} {c : Cell} : (S.set n c).length = S.length := List.length_set
theorem m_tyL : isTy "list" (.lst l) S = some () := by
  show (if "list" = "list" ∧ (seqL S (.lst l)).isSome = true then some () else none) = _
  exact if_pos ⟨rfl, rfl⟩
theorem m_tyS : isTy "str" (.str x) S = some () := by
  show (if "str" = "str" then some () else none) = _
  exact if_pos rfl
theorem m_ty {n : Nat} {QU : Unit → Cells → Prop} : wpo (isTy "list" (.ref n) S) S' QU = (∃ l, seqL S (.ref n) = some l ∧ QU () S') := by
  unfold isTy
  simp only
  cases e : seqL S (.ref n) with
  | none =>
    rw [if_neg (by simp)]
    exact propext ⟨fun q => q.elim, fun ⟨_, z, _⟩ => nomatch z⟩
  | some l =>
    rw [if_pos (by simp)]
    exact propext ⟨fun q => ⟨l, rfl, q⟩, fun ⟨_, _, q⟩ => q⟩
theorem liveL_at {n : Nat} : liveL (.ref n) S = match S[n]? with
  | some ⟨true, .lst l⟩ => some (n, l)
  | _ => none := rfl
/-- o.append(x) -/
theorem m_app {n : Nat} : wpc (mAppend (.ref n) [d] S) Q = atL S n fun l => d.flat = true ∧ l.length < sizeLine ∧ Q .non (S.set n ⟨true, .lst (l ++ [d])⟩) := by
  unfold mAppend atL
  rw [liveL_at]
  split
  · rename_i x m l e1 e2
    cases e1
    split at e2
    · rename_i l' e3
      cases e2
      by_cases h : d.flat = true ∧ l.length < sizeLine
      · rw [if_pos h]
        exact propext ⟨fun q => ⟨l, e3, h.1, h.2, q⟩, fun ⟨l2, e4, _, _, q⟩ => by rw [e3] at e4; cases e4; exact q⟩
      · rw [if_neg h]
        exact propext ⟨fun q => q.elim, fun ⟨l2, e4, q1, q2, _⟩ => by rw [e3] at e4; cases e4; exact absurd ⟨q1, q2⟩ h⟩
    · cases e2
  · rename_i hn
    refine propext ⟨fun q => q.elim, fun ⟨l, e, _⟩ => ?_⟩
    exact (hn d n l rfl (by rw [e])).elim
theorem seq_at {n : Nat} {b : Bool} (h : S[n]? = some ⟨b, .lst l⟩) : seqL S (.ref n) = some l := seqL_ref h
theorem seq_new {n : Nat} {b : Bool} {R : Cells} (h : S.length = n) : seqL (S ++ ⟨b, .lst l⟩ :: R) (.ref n) = some l := seqL_ref (b := b) (by rw [← h]; simp)
theorem seq_new1 {n : Nat} {b : Bool} {c : Cell} {R : Cells} (h : S.length = n) : seqL (S ++ c :: ⟨b, .lst l⟩ :: R) (.ref (n + 1)) = some l := seqL_ref (b := b) (by rw [← h]; simp)
theorem seq_new2 {n : Nat} {b : Bool} {c c' : Cell} {R : Cells} (h : S.length = n) : seqL (S ++ c :: c' :: ⟨b, .lst l⟩ :: R) (.ref (n + 2)) = some l := seqL_ref (b := b) (by rw [← h]; simp)
theorem seq_old {n : Nat} {R : Cells} (h : n < S.length) : seqL (S ++ R) (.ref n) = seqL S (.ref n) := by
  unfold seqL
  simp only
  rw [List.getElem?_append_left h]
theorem ex_some {β : Type} {a : β} {P : β → Prop} : (∃ m, some a = some m ∧ P m) = P a := propext ⟨fun ⟨_, e, q⟩ => by cases e; exact q, fun q => ⟨a, rfl, q⟩⟩
theorem x_ref {n : Nat} : wpo (ixD (.ref n) (.int k) S) S' Q = wpo (seqL S (.ref n)) S' fun l S' => wAt l k S' Q := by
  show wpo ((seqL S (.ref n)).bind fun l => atI l k) S' Q = _
  cases seqL S (.ref n) with
  | none => rfl
  | some l => exact wAt_of
theorem c_lenR {n : Nat} : dLen [.ref n] S = (seqL S (.ref n)).map fun l => .int l.length := nrfl rfl
theorem c_listR {n : Nat} : dListOf [.ref n] S = seqL S (.ref n) := nrfl rfl
theorem c_tupR {n : Nat} : dTupleOf [.ref n] S = (seqL S (.ref n)).map fun l => D.tup l := nrfl rfl
theorem sl_ref {n : Nat} {lo hi : Option Int} : slD (.ref n) lo hi S = (seqL S (.ref n)).map fun l => .lst (cutD l lo hi) := by
  show (slL (.ref n) lo hi S).map D.lst = _
  unfold slL
  cases seqL S (.ref n) <;> rfl
/-- o[k] = y -/
theorem m_sto {n : Nat} {y : D} : wSto (setAtD (.ref n) (.int k) y S) ρ N = atL S n fun l => ∃ j, ixN l.length k = some j ∧ y.flat = true ∧ N ρ (S.set n ⟨true, .lst (l.set j y)⟩) := by
  unfold setAtD atL
  rw [liveL_at]
  cases e : S[n]? with
  | none => exact propext ⟨fun q => q.elim, fun ⟨_, z, _⟩ => nomatch z⟩
  | some c =>
    obtain ⟨b, c⟩ := c
    cases c with
    | ins k fs => exact propext ⟨fun q => by cases b <;> exact q.elim, fun ⟨_, z, _⟩ => by cases z⟩
    | dct kvs => exact propext ⟨fun q => by cases b <;> exact q.elim, fun ⟨_, z, _⟩ => by cases z⟩
    | lst l =>
      cases b with
      | false => exact propext ⟨fun q => q.elim, fun ⟨_, z, _⟩ => by cases z⟩
      | true =>
        show wSto (match ixN l.length k with
          | some j => if y.flat = true then some (S.set n ⟨true, .lst (l.set j y)⟩) else none
          | none => none) ρ N = _
        cases ex : ixN l.length k with
        | none => exact propext ⟨fun q => q.elim, fun ⟨l2, z, j, ez, _⟩ => by cases z; rw [ex] at ez; cases ez⟩
        | some j =>
          by_cases h : y.flat = true
          · simp only [if_pos h]
            exact propext ⟨fun q => ⟨l, rfl, j, ex, h, q⟩, fun ⟨l2, z, j2, ez, _, q⟩ => by cases z; rw [ex] at ez; cases ez; exact q⟩
          · simp only [if_neg h]
            exact propext ⟨fun q => q.elim, fun ⟨l2, z, j2, ez, q, _⟩ => absurd q h⟩
/-- a list that is read from now on -/
theorem m_fzL : wp (fzM (.lst l) S) Q E = Q (.lst l) S := nrfl rfl
theorem m_fzI : wp (fzM (.int i) S) Q E = Q (.int i) S := nrfl rfl
theorem m_fzT : wp (fzM (.tup l) S) Q E = Q (.tup l) S := nrfl rfl
theorem m_fz {n : Nat} : wp (fzM (.ref n) S) Q E = wpo (seqL S (.ref n)) S fun l S => Q (.lst l) (S.set n ⟨false, .lst l⟩) := by
  unfold fzM M.chg seqL
  simp only
  cases e : S[n]? with
  | none => rfl
  | some c =>
    obtain ⟨b, c⟩ := c
    cases c <;> rfl
theorem fl_non : (D.non).flat = true := by simp
theorem fl_int : (D.int i).flat = true := by simp
theorem fl_bl {b : Bool} : (D.bl b).flat = true := by simp
theorem fl_str : (D.str x).flat = true := by simp
theorem fl_tup : (D.tup l).flat = flatL l := flat_tup l
theorem fl_lst : (D.lst l).flat = flatL l := flat_lst l
theorem fl_obj {n : Nat} : (D.obj n l).flat = flatL l := flat_obj n l
theorem fl_nil : flatL [] = true := nrfl rfl
theorem fl_cons : flatL (d :: l) = (d.flat && flatL l) := nrfl rfl
theorem fl_app : flatL (l ++ m) = (flatL l && flatL m) := by unfold flatL; exact List.all_append
theorem fl_encP {p : Int × Int} : (encP p).flat = true := flat_encP p
theorem fl_map {γ : Type} {f : γ → D} {l : List γ} (h : ∀ a ∈ l, (f a).flat = true) : flatL (l.map f) = true := by
  unfold flatL
  rw [List.all_map, List.all_eq_true]
  exact h
end
section
variable {γ σ : Type} {S : Cells} {ρ : En} {N : En → Cells → Prop} {Rt : D → Cells → Prop} {E : Xc → En → Cells → Prop} {p : Pat} {B : SM}
theorem w_forCons {d : D} {ds : List D} (h : wAsg p ρ (fun ρ1 S1 => wo (B ρ1 S1) (fun ρ2 S2 => wo (forD p B ds ρ2 S2) N Rt E) Rt E) d S) : wo (forD p B (d :: ds) ρ S) N Rt E := by
  rw [forD_cons]
  unfold wAsg at h
  cases e : p.put d ρ with
  | none => rw [e] at h; exact h.elim
  | some ρ1 =>
    rw [e] at h
    have h : wo (B ρ1 S) (fun ρ2 S2 => wo (forD p B ds ρ2 S2) N Rt E) Rt E := h
    show wo (stepD (forD p B ds) (B ρ1 S)) N Rt E
    cases eb : B ρ1 S with
    | bk ρ S => rw [eb] at h; exact h.elim
    | ct ρ S => rw [eb] at h; exact h.elim
    | stuck => rw [eb] at h; exact h.elim
    | _ => rw [eb] at h; exact h
/-- a loop by an invariant over the items that are left -/
theorem for_wp (enc : γ → D) (I : List γ → En → Cells → Prop) (hs : ∀ a r ρ S, I (a :: r) ρ S → wAsg p ρ (fun ρ1 S1 => wo (B ρ1 S1) (I r) Rt E) (enc a) S) (he : ∀ ρ S, I [] ρ S → N ρ S) : ∀ (l : List γ) (ρ : En) (S : Cells), I l ρ S → wo (forD p B (l.map enc) ρ S) N Rt E
  | [], ρ, S, h => he ρ S h
  | a :: l, ρ, S, h => by
    refine w_forCons ?_
    have q := hs a l ρ S h
    unfold wAsg at q ⊢
    cases e : p.put (enc a) ρ with
    | none => rw [e] at q; exact q.elim
    | some ρ1 =>
      rw [e] at q
      exact wo_mono q (fun ρ2 S2 z => for_wp enc I hs he l ρ2 S2 z) (fun _ _ z => z) (fun _ _ _ z => z)
/-- .. by a state of one's own -/
theorem for_st (enc : γ → D) (e : σ → En) (c : σ → Cells) (P : σ → List γ → Prop) (l : List γ) (s0 : σ) (h0 : P s0 l) (hs : ∀ s a r, P s (a :: r) → wAsg p (e s) (fun ρ1 S1 => wo (B ρ1 S1) (fun ρ2 S2 => ∃ s', ρ2 = e s' ∧ S2 = c s' ∧ P s' r) Rt E) (enc a) (c s)) (he : ∀ s, P s [] → N (e s) (c s))
    (hρ : ρ = e s0 := by rfl) (hS : S = c s0 := by rfl) : wo (forD p B (l.map enc) ρ S) N Rt E := by
  subst hρ
  subst hS
  refine for_wp enc (fun r ρ S => ∃ s, ρ = e s ∧ S = c s ∧ P s r) (fun a r ρ S ⟨s, e1, e2, h⟩ => ?_) (fun ρ S ⟨s, e1, e2, h⟩ => ?_) l _ _ ⟨s0, rfl, rfl, h0⟩
  · subst e1
    subst e2
    exact hs s a r h
  · subst e1
    subst e2
    exact he s h
end
section
variable {γ σ : Type} {S : Cells} {ρ : En} {E : Xc → Cells → Prop} {p : Pat} {ft : En → M Bool} {fe : En → M D}
theorem w_yes {QB : Bool → Cells → Prop} : wp (yesM S) QB E = QB true S := nrfl rfl
def cStep (p : Pat) (ft : En → M Bool) (fe : En → M D) (ρ : En) (d : D) (S : Cells) (K : Option D → Cells → Prop) : Prop :=
  wAsg p ρ (fun ρ1 S1 => wp (ft ρ1 S1) (fun b S2 => wif b (wp (fe ρ1 S2) (fun y S3 => K (some y) S3) noE) (K none S2)) noE) d S
theorem cStep_mono {d : D} {K K' : Option D → Cells → Prop} (h : cStep p ft fe ρ d S K) (i : ∀ o S, K o S → K' o S) : cStep p ft fe ρ d S K' := by
  unfold cStep wAsg at *
  cases e : p.put d ρ with
  | none => rw [e] at h; exact h
  | some ρ1 =>
    rw [e] at h
    refine wp_mono h (fun b S2 q => ⟨fun hb => wp_mono (q.1 hb) (fun y S3 z => i _ _ z) (fun _ _ z => z), fun hb => i _ _ (q.2 hb)⟩) (fun _ _ z => z)
theorem w_compCons {QL : List D → Cells → Prop} {d : D} {ds : List D} (h : cStep p ft fe ρ d S fun o S1 => wp (compD p ft fe ρ ds S1) (fun l S2 => QL (match o with
    | some y => y :: l
    | none => l) S2) E) : wp (compD p ft fe ρ (d :: ds) S) QL E := by
  unfold compD
  unfold cStep wAsg at h
  cases e : p.put d ρ with
  | none => rw [e] at h; exact h.elim
  | some ρ1 =>
    rw [e] at h
    show wp (M.bind (calmM (ft ρ1)) _ S) QL E
    rw [w_bind, w_calm]
    have h : wp (ft ρ1 S) _ noE := h
    refine wp_mono h (fun b S2 q => ?_) (fun _ _ z => z)
    cases b with
    | true =>
      have q := q.1 rfl
      show wp (M.bind (calmM (fe ρ1)) _ S2) QL E
      rw [w_bind, w_calm]
      refine wp_mono q (fun y S3 z => ?_) (fun _ _ z => z)
      show wp (M.bind (compD p ft fe ρ ds) _ S3) QL E
      rw [w_bind]
      exact z
    | false => exact q.2 rfl
theorem comp_wp {QL : List D → Cells → Prop} (enc : γ → D) (f : γ → Option D) (l : List γ) (h : ∀ a ∈ l, cStep p ft fe ρ (enc a) S fun o S1 => o = f a ∧ S1 = S) (q : QL (l.filterMap f) S) : wp (compD p ft fe ρ (l.map enc) S) QL E := by
  have e : compD p ft fe ρ (l.map enc) S = .ok (l.filterMap f) S := by
    clear q
    induction l with
    | nil => rfl
    | cons a l ih =>
      refine wp_ok ?_
      rw [List.map_cons]
      refine w_compCons (cStep_mono (h a List.mem_cons_self) fun o S1 ⟨e1, e2⟩ => ?_)
      subst e2
      subst e1
      refine wp_of (ih fun b hb => h b (List.mem_cons_of_mem _ hb)) ⟨?_, rfl⟩
      rw [List.filterMap_cons]
      cases f a <;> rfl
  exact wp_of e q
theorem comp_map_wp {QL : List D → Cells → Prop} (enc : γ → D) (g : γ → D) (l : List γ) (h : ∀ a ∈ l, cStep p ft fe ρ (enc a) S fun o S1 => o = some (g a) ∧ S1 = S) (q : QL (l.map g) S) : wp (compD p ft fe ρ (l.map enc) S) QL E := by
  refine comp_wp enc (fun a => some (g a)) l h ?_
  have e : l.filterMap (fun a => some (g a)) = l.map g := by
    clear q h
    induction l with
    | nil => rfl
    | cons a l ih => rw [List.filterMap_cons, ih]; rfl
  rw [e]
  exact q
theorem comp_fil_wp {QL : List D → Cells → Prop} (enc : γ → D) (t : γ → Bool) (g : γ → D) (l : List γ) (h : ∀ a ∈ l, cStep p ft fe ρ (enc a) S fun o S1 => o = (if t a = true then some (g a) else none) ∧ S1 = S) (q : QL ((l.filter t).map g) S) : wp (compD p ft fe ρ (l.map enc) S) QL E := by
  refine comp_wp enc (fun a => if t a = true then some (g a) else none) l h ?_
  have e : l.filterMap (fun a => if t a = true then some (g a) else none) = (l.filter t).map g := by
    clear q h
    induction l with
    | nil => rfl
    | cons a l ih =>
      rw [List.filterMap_cons, List.filter_cons]
      cases t a
      · exact ih
      · show g a :: _ = g a :: _
        rw [ih]
  rw [e]
  exact q
end
end DL
end
section
set_option maxHeartbeats 4000000
namespace DL
open PySem PySem.Spec L2
open PyProof.Rows hiding St
theorem w_rangeN {n : Nat} {S : Cells} {QL : List D → Cells → Prop} (h : n ≤ sizeLine) : wpo (rangeD 0 (n : Int)) S QL = QL ((List.range n).map fun k : Nat => D.int k) S := by
  rw [range_sm (by omega) (by omega)]
  rfl
theorem w_rangeI {i : Int} {S : Cells} {QL : List D → Cells → Prop} (h0 : 0 ≤ i) (h : i ≤ sizeLine) : wpo (rangeD 0 i) S QL = QL ((List.range i.toNat).map fun k : Nat => D.int k) S := by
  rw [range_sm h0 h]
  rfl
theorem wAt_map {γ : Type} {enc : γ → D} {l : List γ} {k : Int} {n : Nat} {a : γ} {S : Cells} {Q : D → Cells → Prop} (hk : k = (n : Nat)) (h : l[n]? = some a) : wAt (l.map enc) k S Q = Q (enc a) S := wAt_some (by rw [hk]; exact atI_nat (by rw [List.getElem?_map, h]; rfl))
theorem cut_1 {l : List D} : cutD l (some 1) none = l.drop 1 := cut1 l
theorem wretL_new {S R : Cells} {n : Nat} {l : List D} {Q : List D → Cells → Prop} (h : S.length = n) : wretL n (S ++ ⟨true, .lst l⟩ :: R) (.ref n) Q = Q l S := by
  have e : (S ++ ⟨true, .lst l⟩ :: R)[n]? = some ⟨true, .lst l⟩ := by rw [← h]; simp
  unfold wretL
  simp only
  refine propext ⟨fun ⟨_, l', e', q⟩ => ?_, fun q => ⟨Nat.le_refl _, l, e, ?_⟩⟩
  · rw [e] at e'
    cases e'
    rw [take_app h] at q
    exact q
  · rw [take_app h]
    exact q
theorem wret_new {S R : Cells} {n : Nat} {b : Bool} {l : List D} {Q : D → Cells → Prop} (h : S.length = n) : wret n (S ++ ⟨b, .lst l⟩ :: R) (.ref n) Q = Q (.lst l) S := by
  rw [wret_ref (b := b) (l := l) (Nat.le_refl _) (by rw [← h]; simp), take_app h]
theorem c_setSort {ns : List Int} {S S' : Cells} {QL : List D → Cells → Prop} : wpo (setSortD (.lst (ns.map .int)) S) S' QL = (ns.length < 4095 ∧ QL ((setSort ns).map .int) S') := by
  have e : setSortD (.lst (ns.map .int)) S = if ns.length + 1 < PySem.scanBound then some ((setSort ns).map .int) else none := by
    show (match (some (ns.map D.int)).bind ints? with
      | some ns => if ns.length + 1 < PySem.scanBound then some ((setSort ns).map D.int) else none
      | none => none) = _
    rw [show (some (ns.map D.int)).bind ints? = ints? (ns.map D.int) from rfl, ints?_map]
  rw [e, o_ite]
  have : PySem.scanBound = 4096 := rfl
  rw [this]
  exact propext ⟨fun ⟨a, b⟩ => ⟨by omega, b⟩, fun ⟨a, b⟩ => ⟨by omega, b⟩⟩
section
variable {α : Type} {S S' : Cells} {ρ : En} {Q : D → Cells → Prop} {QL : List D → Cells → Prop} {E : Xc → Cells → Prop} {N : En → Cells → Prop} {Rt : D → Cells → Prop} {EE : Xc → En → Cells → Prop}
  {NM : Nat → List Str} {cs : List Nat} {f m : Str} {c n : Nat} {g : List D → M D} {gL : List D → M (List D)} {o a b : M D} {x : M (List D)} {d e y : D} {l : List D}
theorem w_fld : wp (fldM NM cs f o S) Q E = wp (o S) (fun d S => wpo (fldD NM cs f d S) S Q) E := by
  unfold fldM
  simp only [wp, wpo, wo, U.w_bind, U.w_opt]
theorem w_mt : wp (mtE NM c m n g o x S) Q E = wp (o S) (fun d S => wpo (isC NM c m d S) S fun _ S => wp (x S) (fun l S => wp (arity n g (d :: l) S) Q noE) E) E := by
  unfold mtE
  simp only [wp, wpo, wo, U.w_bind, U.w_opt, U.w_calm]
theorem w_mtL : wp (mtL NM c m n gL o x S) QL E = wp (o S) (fun d S => wpo (isC NM c m d S) S fun _ S => wp (x S) (fun l S => wp (arity n gL (d :: l) S) QL noE) E) E := by
  unfold mtL
  simp only [wp, wpo, wo, U.w_bind, U.w_opt, U.w_calm]
theorem w_mt0 : wp (mt0E NM c m n g o S) Q E = wp (o S) (fun d S => wpo (isC NM c m d S) S fun _ S => wp (arity n g [d] S) Q noE) E := by
  unfold mt0E
  simp only [wp, wpo, wo, U.w_bind, U.w_opt, U.w_calm]
theorem w_mt0L : wp (mt0L NM c m n gL o S) QL E = wp (o S) (fun d S => wpo (isC NM c m d S) S fun _ S => wp (arity n gL [d] S) QL noE) E := by
  unfold mt0L
  simp only [wp, wpo, wo, U.w_bind, U.w_opt, U.w_calm]
theorem w_ic : wp (icE c n g o x S) Q E = wp (o S) (fun d S => wpo (isO c d S) S fun _ S => wp (x S) (fun l S => wp (arity n g (d :: l) S) Q noE) E) E := by
  unfold icE
  simp only [wp, wpo, wo, U.w_bind, U.w_opt, U.w_calm]
theorem isO_obj : isO c (.obj c l) S = some () := nrfl (if_pos rfl)
theorem w_make : wp (makeE NM c n g x S) Q E = wp (x S) (fun l S => wp (makeD NM c n g l S) Q E) E := by
  unfold makeE
  rw [w_bind]
theorem make_wp (hn : l.length + 1 = n) (h : wp (g (.ref S.length :: l) (S ++ [⟨true, .ins c []⟩])) (fun d S1 => d = .non ∧ ∃ b fs, S1[S.length]? = some ⟨b, .ins c fs⟩ ∧ fs.map (·.1) = NM c ∧ Q (.obj c (fs.map (·.2))) (S1.take S.length)) noE) : wp (makeD NM c n g l S) Q E := by
  unfold makeD
  rw [if_pos hn]
  cases eg : g (.ref S.length :: l) (S ++ [⟨true, .ins c []⟩]) with
  | err x S => rw [eg] at h; exact h.elim
  | stuck => rw [eg] at h; exact h.elim
  | ok d S1 =>
    rw [eg] at h
    obtain ⟨rfl, b, fs, e1, e2, q⟩ := h
    show wp (match S1[S.length]? with
      | some ⟨_, .ins c' fs⟩ => if c' = c ∧ fs.map (·.1) = NM c then .ok (.obj c (fs.map (·.2))) (S1.take S.length) else .stuck
      | _ => .stuck : R D) Q E
    rw [e1]
    simp only [e2, and_self, if_true]
    exact q
theorem w_b2M {op : D → D → M D} : wp (b2M op a b S) Q E = wp (a S) (fun x S => wp (b S) (fun y S => wp (op x y S) Q noE) E) E := by
  unfold b2M
  simp only [wp, wpo, wo, U.w_bind, U.w_calm]
theorem w_b2MT {op : D → D → M D} {QB : Bool → Cells → Prop} : wp (b2MT op a b S) QB E = wp (a S) (fun x S => wp (b S) (fun y S => wp (op x y S) (wB QB) noE) E) E := by
  unfold b2MT
  simp only [wp, wpo, wo, U.w_bind, U.w_calm, U.w_opt, U.w_asB]
theorem c_intU {i : Int} : dIntU [.int i] S = some (.int i) := nrfl rfl
theorem c_intbU {b : Bool} : dIntU [.bl b] S = some (.int (if b then 1 else 0)) := nrfl rfl
theorem w_mthL {tn : String} {op : D → List D → Cells → Option (List D)} : wp (mthL_ tn op a x S) QL E = wp (a S) (fun d S => wpo (isTy tn d S) S fun _ S => wp (x S) (fun l S => wpo (op d l S) S QL) E) E := by
  unfold mthL_
  simp only [wp, wpo, wo, U.w_bind, U.w_opt]
theorem w_uM {op : D → M D} : wp (uM op a S) Q E = wp (a S) (fun x S => wp (op x S) Q noE) E := by
  unfold uM
  simp only [wp, wpo, wo, U.w_bind, U.w_calm]
theorem w_inv : wp (invOwn c g (.obj c l) S) Q E = wp (g [.obj c l] S) Q E := by
  unfold invOwn
  simp only [if_true]
theorem w_bin_obj {l' : List D} : wp (binOwn c g (.obj c l) (.obj c l') S) Q E = wp (g [.obj c l, .obj c l'] S) Q E := by
  show wp (if c = c then (if c = c then g [.obj c l, .obj c l'] S else .stuck) else .stuck) Q E = _
  rw [if_pos rfl, if_pos rfl]
theorem w_bin_int {i : Int} : wp (binOwn c g (.obj c l) (.int i) S) Q E = wp (g [.obj c l, .int i] S) Q E := by
  show wp (if c = c then g [.obj c l, .int i] S else .stuck) Q E = _
  rw [if_pos rfl]
theorem w_eq_obj {l' : List D} (h : wp (g [.obj c l, .obj c l'] S) (fun d S => ∃ k, d = .bl k ∧ Q (.bl k) S) noE) : wp (eqOwn c g (.obj c l) (.obj c l') S) Q E := by
  unfold eqOwn
  simp only [if_true]
  cases eg : g [.obj c l, .obj c l'] S with
  | ok d S =>
    rw [eg] at h
    obtain ⟨k, rfl, q⟩ := h
    show wp (if c = c then R.ok (D.bl k) S else .stuck) Q E
    rw [if_pos rfl]
    exact q
  | err x S => rw [eg] at h; exact h.elim
  | stuck => rw [eg] at h; exact h.elim
theorem w_eq_plain (hp : ∃ t, tyName e = some t) (hr : ∀ n, e ≠ .ref n) (h : wp (g [.obj c l, e] S) (fun d S => ∃ k, d = .bl k ∧ Q (.bl k) S) noE) : wp (eqOwn c g (.obj c l) e S) Q E := by
  unfold eqOwn
  simp only [if_true]
  cases eg : g [.obj c l, e] S with
  | ok d S =>
    rw [eg] at h
    obtain ⟨k, rfl, q⟩ := h
    obtain ⟨t, et⟩ := hp
    cases e with
    | ref n => exact absurd rfl (hr n)
    | obj c l => cases et
    | ext c l =>
      cases c with
      | zero => exact q
      | succ c => cases et
    | _ => exact q
  | err x S => rw [eg] at h; exact h.elim
  | stuck => rw [eg] at h; exact h.elim
theorem w_fldS {fv fo : En → M D} : wo (fldS cs f fv fo ρ S) N Rt EE = wp (fv ρ S) (fun y S => wp (fo ρ S) (fun d S => wSto (setFD cs f d y S) ρ N) (fun x S => EE x ρ S)) (fun x S => EE x ρ S) := by
  unfold fldS
  simp only [wp, wpo, wo, U.w_bS]
  congr 1
  funext y S
  congr 1
  funext d S
  cases setFD cs f d y S <;> rfl
def atI' (S : Cells) (n : Nat) (P : Nat → List (Str × D) → Prop) : Prop := ∃ c fs, S[n]? = some ⟨true, .ins c fs⟩ ∧ P c fs
theorem atI_new {n : Nat} {P : Nat → List (Str × D) → Prop} {fs : List (Str × D)} {R : Cells} (h : S.length = n) : atI' (S ++ ⟨true, .ins c fs⟩ :: R) n P = P c fs := by
  have e : (S ++ ⟨true, .ins c fs⟩ :: R)[n]? = some ⟨true, .ins c fs⟩ := by rw [← h]; simp
  exact propext ⟨fun ⟨_, _, e2, q⟩ => by rw [e] at e2; cases e2; exact q, fun q => ⟨c, fs, e, q⟩⟩
theorem m_fld : wSto (setFD cs f (.ref n) y S) ρ N = atI' S n fun c fs => (c ∈ cs ∧ y.flat = true ∧ fs.length < 1000) ∧ N ρ (S.set n ⟨true, .ins c (putD f y fs)⟩) := by
  unfold setFD atI'
  simp only
  cases e : S[n]? with
  | none => exact propext ⟨fun q => q.elim, fun ⟨_, _, z, _⟩ => nomatch z⟩
  | some ce =>
    obtain ⟨b, ce⟩ := ce
    cases ce with
    | lst l => exact propext ⟨fun q => by cases b <;> exact q.elim, fun ⟨_, _, z, _⟩ => by cases z⟩
    | dct kvs => exact propext ⟨fun q => by cases b <;> exact q.elim, fun ⟨_, _, z, _⟩ => by cases z⟩
    | ins c fs =>
      cases b with
      | false => exact propext ⟨fun q => q.elim, fun ⟨_, _, z, _⟩ => by cases z⟩
      | true =>
        show wSto (if c ∈ cs ∧ y.flat = true ∧ fs.length < 1000 then some (S.set n ⟨true, .ins c (putD f y fs)⟩) else none) ρ N = _
        by_cases h : c ∈ cs ∧ y.flat = true ∧ fs.length < 1000
        · rw [if_pos h]
          exact propext ⟨fun q => ⟨c, fs, rfl, h, q⟩, fun ⟨_, _, z, _, q⟩ => by cases z; exact q⟩
        · rw [if_neg h]
          exact propext ⟨fun q => q.elim, fun ⟨_, _, z, q, _⟩ => by cases z; exact absurd q h⟩
theorem w_repL {y : M D} : wp (repL_ x y S) QL E = wp (x S) (fun l S => wp (y S) (fun d S => wpo (repD l d) S QL) E) E := by
  unfold repL_
  simp only [wp, wpo, wo, U.w_bind, U.w_opt]
theorem w_isiC {tab : List (Nat × Bool)} : wp (isiCE tab o S) Q E = wp (o S) (fun d S => wpo (isiCD tab d S) S Q) E := by
  unfold isiCE
  simp only [wp, wpo, wo, U.w_bind, U.w_opt]
def wPar3 (i j k : Nat) (ρ : En) (N : En → Cells → Prop) (l : List D) (S : Cells) : Prop := match l with
  | [d, e, f] => N (((ρ.set i (some d)).set j (some e)).set k (some f)) S
  | _ => False
theorem wPar3_3 {i j k : Nat} {d e f : D} : wPar3 i j k ρ N [d, e, f] S = N (((ρ.set i (some d)).set j (some e)).set k (some f)) S := nrfl rfl
theorem w_par3 {i j k : Nat} {x : En → M (List D)} : wo (par3S i j k x ρ S) N Rt EE = wp (x ρ S) (wPar3 i j k ρ N) (fun x S => EE x ρ S) := by
  unfold par3S
  rw [w_bS]
  show U.wp _ _ _ = U.wp _ _ _
  congr 1
  funext l S
  unfold wPar3
  match l with
  | [] => rfl
  | [_] => rfl
  | [_, _] => rfl
  | [_, _, _] => rfl
  | _ :: _ :: _ :: _ :: _ => rfl
theorem m_count {k : Int} {ns : List Int} : wpc (mCount (.lst (ns.map .int)) [.int k] S) Q = Q (.int (ns.count k : Nat)) S := by
  show wpc ((((some (ns.map D.int)).bind ints?).map fun ns => (D.int (ns.count k : Nat), S))) Q = _
  rw [show ((some (ns.map D.int)).bind ints?) = ints? (ns.map D.int) from rfl, ints?_map]
  rfl
end
end DL
end
section
set_option maxHeartbeats 400000
namespace DL
open PySem PySem.Spec L2
open PyProof.Rows hiding St
section
variable {α : Type} {S S' : Cells} {ρ : En} {Q : D → Cells → Prop} {QL : List D → Cells → Prop} {E : Xc → Cells → Prop} {d e : D} {i j : Int} {x y : Str} {l m : List D}
theorem o_addI : dAddI (.int i) (.int j) S = some (.int (i + j)) := nrfl rfl
theorem o_inS : dInU (.str x) (.str y) S = some (.bl (inS x y)) := nrfl rfl
theorem o_ninS : dNotInU (.str x) (.str y) S = some (.bl (!inS x y)) := nrfl rfl
theorem c_str : wpo (dStr [.int i] S) S' Q = (i.natAbs.log2 < 1920 ∧ Q (.str (toString i)) S') := by
  show wpo (if i.natAbs.log2 < 1920 then some (D.str (toString i)) else none) S' Q = _
  rw [o_ite]
theorem c_intSw : wpo (dIntU [.str x] S) S' Q = (x.length ≤ 640 ∧ ∃ n, intText? x = some n ∧ Q (.int n) S') := by
  show wpo (if x.length ≤ 640 then (intText? x).map D.int else none) S' Q = _
  by_cases h : x.length ≤ 640
  · rw [if_pos h]
    cases e : intText? x with
    | none => exact propext ⟨fun q => q.elim, fun ⟨_, n, z, _⟩ => nomatch z⟩
    | some n => exact propext ⟨fun q => ⟨h, n, rfl, q⟩, fun ⟨_, n', z, q⟩ => by cases z; exact q⟩
  · rw [if_neg h]
    exact propext ⟨fun q => q.elim, fun q => absurd q.1 h⟩
theorem m_ext {n : Nat} : wpc (mExtend (.ref n) [d] S) Q = atL S n fun l => wpo (seqLT S d) S fun m S => flatL m = true ∧ l.length + m.length ≤ sizeLine ∧ Q .non (S.set n ⟨true, .lst (l ++ m)⟩) := by
  unfold mExtend atL
  rw [liveL_at]
  split
  · rename_i x m l e1 e2
    cases e1
    split at e2
    · rename_i l' e3
      cases e2
      cases em : seqLT S d with
      | none => exact propext ⟨fun q => q.elim, fun ⟨l2, e4, q⟩ => q.elim⟩
      | some m' =>
        show wpc (if flatL m' = true ∧ l.length + m'.length ≤ sizeLine then some (D.non, S.set n ⟨true, .lst (l ++ m')⟩) else none) Q = _
        by_cases h : flatL m' = true ∧ l.length + m'.length ≤ sizeLine
        · rw [if_pos h]
          exact propext ⟨fun q => ⟨l, e3, h.1, h.2, q⟩, fun ⟨l2, e4, _, _, q⟩ => by rw [e3] at e4; cases e4; exact q⟩
        · rw [if_neg h]
          exact propext ⟨fun q => q.elim, fun ⟨l2, e4, q1, q2, _⟩ => by rw [e3] at e4; cases e4; exact absurd ⟨q1, q2⟩ h⟩
    · cases e2
  · rename_i hn
    refine propext ⟨fun q => q.elim, fun ⟨l, e, _⟩ => ?_⟩
    exact (hn d n l rfl (by rw [e])).elim
theorem slt_l : seqLT S (.lst l) = some l := nrfl rfl
theorem slt_t : seqLT S (.tup l) = some l := nrfl rfl
theorem slt_r {n : Nat} : seqLT S (.ref n) = seqL S (.ref n) := nrfl rfl
theorem c_dm : wpo (dDivmod [.int i, .int j] S) S' Q = (okDiv j ∧ Q (.tup [.int (i / j), .int (i % j)]) S') := o_ite
theorem w_ne_obj {c : Nat} {g : List D → M D} {l' : List D} (h : wp (g [.obj c l, .obj c l'] S) (fun d S => ∃ k, d = .bl k ∧ Q (.bl (!k)) S) noE) : wp (neOwn c g (.obj c l) (.obj c l') S) Q E := by
  unfold neOwn
  rw [w_bind]
  refine w_eq_obj (Q := fun d S => wp ((match d with
    | .bl b => kon (.bl (!b))
    | _ => stuck : M D) S) Q E) (wp_mono h (fun d S ⟨k, e, q⟩ => ⟨k, e, ?_⟩) fun _ _ z => z)
  exact q
theorem c_split : wpo (mSplit (.str x) [.str y] S) S' QL = (((y.length == 0) = false ∧ x.length + 2 ≤ sizeLine ∧ (Txt.split x y).length ≤ sizeLine ∧ (∀ z ∈ Txt.split x y, z.length ≤ sizeLine)) ∧ QL ((Txt.split x y).map .str) S') := by
  show wpo (if (y.length == 0) = false ∧ x.length + 2 ≤ sizeLine ∧ (Txt.split x y).length ≤ sizeLine ∧ (∀ z ∈ Txt.split x y, z.length ≤ sizeLine) then some ((Txt.split x y).map D.str) else none) S' QL = _
  rw [o_ite]
theorem c_join {ys : List Str} : wpc (mJoin (.str x) [.lst (ys.map .str)] S) Q = (((ys.map (·.length)).sum + ys.length * x.length ≤ 16777216 ∧ (Txt.join x ys).length ≤ sizeLine) ∧ Q (.str (Txt.join x ys)) S) := by
  unfold mJoin
  show wpc (match (some (ys.map D.str)).bind strs? with
    | some ys => if (ys.map (·.length)).sum + ys.length * x.length ≤ 16777216 ∧ (Txt.join x ys).length ≤ sizeLine then some (D.str (Txt.join x ys), S) else none
    | none => none) Q = _
  rw [show (some (ys.map D.str)).bind strs? = strs? (ys.map D.str) from rfl, strs?_map]
  show wpc (if (ys.map (·.length)).sum + ys.length * x.length ≤ 16777216 ∧ (Txt.join x ys).length ≤ sizeLine then some (D.str (Txt.join x ys), S) else none) Q = _
  by_cases h : (ys.map (·.length)).sum + ys.length * x.length ≤ 16777216 ∧ (Txt.join x ys).length ≤ sizeLine
  · rw [if_pos h]
    exact propext ⟨fun q => ⟨h, q⟩, fun q => q.2⟩
  · rw [if_neg h]
    exact propext ⟨fun q => q.elim, fun q => absurd q.1 h⟩
theorem c_rep {k : Int} : wpo (repD l (.int k)) S QL = (((-(2 ^ 63) ≤ k ∧ k < 2 ^ 63) ∧ l.length * k.toNat ≤ sizeLine) ∧ QL (List.replicate k.toNat l).flatten S) := o_ite
theorem x_str {k : Int} : wpo (ixD (.str x) (.int k) S) S' Q = ∃ c, atI x.cps.toList k = some c ∧ Q (.str ⟨#[c]⟩) S' := by
  show wpo ((atI x.cps.toList k).map fun c => D.str ⟨#[c]⟩) S' Q = _
  cases atI x.cps.toList k with
  | none => exact propext ⟨fun q => q.elim, fun ⟨_, e, _⟩ => nomatch e⟩
  | some c => exact propext ⟨fun q => ⟨c, rfl, q⟩, fun ⟨_, e, q⟩ => by cases e; exact q⟩
theorem wret_tup {n : Nat} (h : flatL l = true) : wret n S (.tup l) Q = Q (.tup l) (S.take n) := wret_flat (by rw [flat_tup]; exact h)
theorem wret_lst {n : Nat} (h : flatL l = true) : wret n S (.lst l) Q = Q (.lst l) (S.take n) := wret_flat (by rw [flat_lst]; exact h)
theorem o_catRL {n : Nat} : wpo (catL (.ref n) (.lst m) S) S' QL = wpo (seqL S (.ref n)) S' fun l S' => l.length + m.length ≤ sizeLine ∧ QL (l ++ m) S' := by
  unfold catL
  cases e : seqL S (.ref n) with
  | none => rfl
  | some l =>
    show wpo (if l.length + m.length ≤ sizeLine then some (l ++ m) else none) S' QL = _
    rw [o_ite]
    rfl
theorem o_addRL {n : Nat} : wpo (dAdd (.ref n) (.lst m) S) S' Q = wpo (seqL S (.ref n)) S' fun l S' => l.length + m.length ≤ sizeLine ∧ Q (.lst (l ++ m)) S' := by
  show wpo ((catL (.ref n) (.lst m) S).map D.lst) S' Q = _
  unfold catL
  cases e : seqL S (.ref n) with
  | none => rfl
  | some l =>
    show wpo ((if l.length + m.length ≤ sizeLine then some (l ++ m) else none).map D.lst) S' Q = _
    by_cases h : l.length + m.length ≤ sizeLine
    · rw [if_pos h]
      exact propext ⟨fun q => ⟨h, q⟩, fun q => q.2⟩
    · rw [if_neg h]
      exact propext ⟨fun q => q.elim, fun q => absurd q.1 h⟩
theorem cut_m1 {l : List D} : cutD l none (some (-1)) = l.dropLast := by
  unfold cutD
  have e1 : HT.sIx l.length 0 none = 0 := rfl
  have e2 : HT.sIx l.length l.length (some (-1)) = l.length - 1 := by
    show (if (-1 : Int) < 0 then ((-1 : Int) + (l.length : Int)).toNat else min (-1 : Int).toNat l.length) = _
    rw [if_pos (by decide)]
    omega
  rw [e1, e2, List.drop_zero, Nat.sub_zero, List.dropLast_eq_take]
end
end DL
end
section
set_option maxHeartbeats 4000000
namespace DL
open PySem PySem.Spec L2
open PyProof.Rows hiding St
def strGood (x : Str) : Prop := (∀ c ∈ x.cps.toList, c < 0x110000) ∧ x.length ≤ 1000000
/-- plain data, n deep -/
inductive Gd : Nat → D → Prop
  | non {n : Nat} : Gd n .non
  | bl {n : Nat} {b : Bool} : Gd n (.bl b)
  | int {n : Nat} {i : Int} : logOk i → Gd n (.int i)
  | str {n : Nat} {x : Str} : strGood x → Gd n (.str x)
  | lst {n : Nat} {l : List D} : (∀ d ∈ l, Gd n d) → Gd (n + 1) (.lst l)
  | tup {n : Nat} {l : List D} : (∀ d ∈ l, Gd n d) → Gd (n + 1) (.tup l)
/-- an upper bound of the length of what is written -/
def wt : D → Nat
  | .non => 4
  | .bl _ => 5
  | .int _ => 1921
  | .str x => 10 * x.length + 2
  | .lst l => 3 + (l.attach.map fun ⟨d, _⟩ => wt d + 2).sum
  | .tup l => 3 + (l.attach.map fun ⟨d, _⟩ => wt d + 2).sum
  | _ => 0
def wtL (l : List D) : Nat := (l.map fun d => wt d + 2).sum
theorem wt_lst (l : List D) : wt (.lst l) = 3 + wtL l := by
  unfold wt wtL
  congr 2
  exact List.attach_map_val (f := fun d => wt d + 2)
theorem wt_tup (l : List D) : wt (.tup l) = 3 + wtL l := by
  unfold wt wtL
  congr 2
  exact List.attach_map_val (f := fun d => wt d + 2)
theorem wtL_nil : wtL [] = 0 := rfl
theorem wtL_cons {d : D} {l : List D} : wtL (d :: l) = wt d + 2 + wtL l := by unfold wtL; simp
theorem wtL_le {γ : Type} {f : γ → D} {l : List γ} {w : Nat} (h : ∀ a ∈ l, wt (f a) ≤ w) : wtL (l.map f) ≤ l.length * (w + 2) := by
  induction l with
  | nil => exact Nat.zero_le _
  | cons a l ih =>
    have := ih fun b hb => h b (List.mem_cons_of_mem _ hb)
    have := h a List.mem_cons_self
    rw [List.map_cons, wtL_cons, List.length_cons, Nat.add_mul, Nat.one_mul]
    omega
theorem wt_int {i : Int} : wt (.int i) = 1921 := by unfold wt; rfl
theorem wt_non : wt .non = 4 := by unfold wt; rfl
theorem wt_bl {b : Bool} : wt (.bl b) = 5 := by unfold wt; rfl
theorem wt_str {x : Str} : wt (.str x) = 10 * x.length + 2 := by unfold wt; rfl
structure PyG (n : Nat) (w : Nat) (p : PyData) : Prop where
  lay : p.canLay0 = true
  dep : p.depth ≤ n
  sho : p.showable = true
  dic : p.hasDict = false
  pla : p.plain = true
  len : p.shown.length ≤ w
structure PyGs (n : Nat) (w : Nat) (p : List PyData) : Prop where
  lay : PyData.canLayAll0 p = true
  dep : PyData.depthAll p ≤ n
  sho : PyData.showableAll p = true
  dic : PyData.hasDictAll p = false
  pla : PyData.plainAll p = true
  len : piled (PyData.shownAll p) ≤ w
theorem gd_flat {n : Nat} {d : D} (h : Gd n d) : d.flat = true := by
  induction h with
  | non => simp
  | bl => simp
  | int => simp
  | str => simp
  | lst h ih => rw [flat_lst]; unfold flatL; exact List.all_eq_true.mpr ih
  | tup h ih => rw [flat_tup]; unfold flatL; exact List.all_eq_true.mpr ih
theorem gd_list {n : Nat} : ∀ (l : List D), (∀ d ∈ l, Gd n d) → (∀ d ∈ l, ∃ p, toPy d = some p ∧ PyG n (wt d) p) → ∃ ps, toPyL l = some ps ∧ PyGs n (wtL l) ps
  | [], _, _ => ⟨[], rfl, ⟨rfl, Nat.zero_le _, rfl, rfl, rfl, Nat.zero_le _⟩⟩
  | d :: l, h, h2 => by
    obtain ⟨p, e, g⟩ := h2 d List.mem_cons_self
    obtain ⟨ps, es, gs⟩ := gd_list l (fun x hx => h x (List.mem_cons_of_mem _ hx)) (fun x hx => h2 x (List.mem_cons_of_mem _ hx))
    refine ⟨p :: ps, ?_, ⟨?_, ?_, ?_, ?_, ?_, ?_⟩⟩
    · show (match toPy d, toPyL l with
        | some e, some es => some (e :: es)
        | _, _ => none) = _
      rw [e, es]
    · show (p.canLay0 && PyData.canLayAll0 ps) = true
      rw [g.lay, gs.lay]; rfl
    · show max p.depth (PyData.depthAll ps) ≤ n
      exact Nat.max_le.mpr ⟨g.dep, gs.dep⟩
    · show (p.showable && PyData.showableAll ps) = true
      rw [g.sho, gs.sho]; rfl
    · show (p.hasDict || PyData.hasDictAll ps) = false
      rw [g.dic, gs.dic]; rfl
    · show (p.plain && PyData.plainAll ps) = true
      rw [g.pla, gs.pla]; rfl
    · rw [PyData.shownAll_cons, piled_cons, wtL_cons]
      have := g.len
      have := gs.len
      omega
theorem gd_py {n : Nat} {d : D} (h : Gd n d) : ∃ p, toPy d = some p ∧ PyG n (wt d) p := by
  induction h with
  | non => exact ⟨.none, rfl, ⟨rfl, Nat.zero_le _, rfl, rfl, rfl, by rw [wt_non]; exact (by decide : (PyData.none).shown.length ≤ 4)⟩⟩
  | @bl n b => exact ⟨.bool b, rfl, ⟨rfl, Nat.zero_le _, rfl, rfl, rfl, by rw [wt_bl]; cases b <;> decide +kernel⟩⟩
  | @int n i h => exact ⟨.int i, rfl, ⟨rfl, Nat.zero_le _, decide_eq_true h, rfl, rfl, by rw [wt_int]; exact shown_int_le h⟩⟩
  | @str n x h => exact ⟨.str x, rfl, ⟨by
      show PyData.strOk x = true
      unfold PyData.strOk
      rw [← Array.all_toList]
      exact List.all_eq_true.mpr fun c hc => decide_eq_true (h.1 c hc), Nat.zero_le _, rfl, rfl, rfl, by
      rw [wt_str]
      exact StrLaws.reprText_len x fun c hc => Nat.lt_trans (h.1 c hc) (by decide)⟩⟩
  | @lst n l h ih =>
    obtain ⟨ps, e, g⟩ := gd_list l h ih
    refine ⟨.list ps, by show (match toPyL l with | some m => some (PyData.list m) | none => none) = _; rw [e], ⟨g.lay, Nat.succ_le_succ g.dep, g.sho, g.dic, g.pla, ?_⟩⟩
    show (listText (PyData.shownAll ps)).length ≤ _
    have := listText_le (PyData.shownAll ps)
    have := g.len
    rw [wt_lst]
    omega
  | @tup n l h ih =>
    obtain ⟨ps, e, g⟩ := gd_list l h ih
    refine ⟨.tuple ps, by show (match toPyL l with | some m => some (PyData.tuple m) | none => none) = _; rw [e], ⟨g.lay, Nat.succ_le_succ g.dep, g.sho, g.dic, g.pla, ?_⟩⟩
    show (tupleText (PyData.shownAll ps)).length ≤ _
    have := tupleText_le (PyData.shownAll ps)
    have := g.len
    rw [wt_tup]
    omega
section
variable {S : Cells} {n : Nat} {d : D}
theorem gd_vw (h : Gd n d) : ∃ p, vw S d = some p ∧ PyG n (wt d) p := by
  obtain ⟨p, e, g⟩ := gd_py h
  refine ⟨p, ?_, g⟩
  unfold vw
  rw [resv_flat _ _ _ (gd_flat h)]
  exact e
theorem PyG.shaped {w : Nat} {p : PyData} (g : PyG n w p) (hn : n ≤ 64) : SeqAt.shaped p = true := by
  show (p.canLay0 && decide (p.depth ≤ 64)) = true
  rw [g.lay, decide_eq_true (Nat.le_trans g.dep hn)]
  rfl
theorem eqP_same (h : Gd n d) (hn : n ≤ 64) : eqP d d S = some true := by
  obtain ⟨p, e, g⟩ := gd_vw (S := S) h
  rw [eqP_of e e (g.shaped hn) (g.shaped hn), SeqAt.eqv_refl_plain p g.pla]
theorem dEq_same (h : Gd n d) (hn : n ≤ 64) : dEq d d S = some (.bl true) := by
  cases d with
  | str x => show some (D.bl (decide (x = x))) = _; rw [decide_eq_true rfl]
  | _ => exact (congrArg (Option.map D.bl) (eqP_same (S := S) h hn) : _)
theorem dNe_same (h : Gd n d) (hn : n ≤ 64) : dNe d d S = some (.bl false) := by
  cases d with
  | str x => show some (D.bl (!decide (x = x))) = _; rw [decide_eq_true rfl]; rfl
  | _ => exact (congrArg (Option.map fun b => D.bl (!b)) (eqP_same (S := S) h hn) : _)
theorem repr_some (h : Gd n d) (hn : n ≤ 60) (hw : wt d ≤ sizeLine) (hs : ∀ x, d ≠ .str x) (hb : ∀ b, d ≠ .bl b) : ∃ x, ∀ S, reprD [d] S = some (.str x) := by
  obtain ⟨p, e0, g⟩ := gd_py h
  have e : ∀ S, vw S d = some p := fun S => by unfold vw; rw [resv_flat _ _ _ (gd_flat h)]; exact e0
  cases h with
  | non => exact ⟨_, fun S => rfl⟩
  | bl => exact absurd rfl (hb _)
  | str => exact absurd rfl (hs _)
  | @int _ i h =>
    refine ⟨toString i, fun S => ?_⟩
    show (if i.natAbs.log2 < 1920 ∧ (toString i : Str).length ≤ sizeLine then some (D.str (toString i)) else none) = _
    have := shown_int_le h
    rw [PyData.shown_int] at this
    exact if_pos ⟨h, Nat.le_trans this (by decide)⟩
  | @lst _ l h =>
    obtain ⟨ps, rfl⟩ : ∃ ps, p = .list ps := by
      have e0 : (match toPyL l with | some m => some (PyData.list m) | none => none) = some p := e0
      cases q : toPyL l with
      | none => rw [q] at e0; cases e0
      | some m => rw [q] at e0; cases e0; exact ⟨m, rfl⟩
    refine ⟨(PyData.list ps).shown, fun S => ?_⟩
    show (match vw S (.lst l) with
      | some p => match p with
        | .list _ => if p.showable = true ∧ p.hasDict = false ∧ p.depth ≤ 60 ∧ p.shown.length ≤ sizeLine then some (D.str p.shown) else none
        | .tuple _ => if p.showable = true ∧ p.hasDict = false ∧ p.depth ≤ 60 ∧ p.shown.length ≤ sizeLine then some (D.str p.shown) else none
        | _ => none
      | none => none) = _
    rw [e S]
    exact if_pos ⟨g.sho, g.dic, Nat.le_trans g.dep hn, Nat.le_trans g.len hw⟩
  | @tup _ l h =>
    obtain ⟨ps, rfl⟩ : ∃ ps, p = .tuple ps := by
      have e0 : (match toPyL l with | some m => some (PyData.tuple m) | none => none) = some p := e0
      cases q : toPyL l with
      | none => rw [q] at e0; cases e0
      | some m => rw [q] at e0; cases e0; exact ⟨m, rfl⟩
    refine ⟨(PyData.tuple ps).shown, fun S => ?_⟩
    show (match vw S (.tup l) with
      | some p => match p with
        | .list _ => if p.showable = true ∧ p.hasDict = false ∧ p.depth ≤ 60 ∧ p.shown.length ≤ sizeLine then some (D.str p.shown) else none
        | .tuple _ => if p.showable = true ∧ p.hasDict = false ∧ p.depth ≤ 60 ∧ p.shown.length ≤ sizeLine then some (D.str p.shown) else none
        | _ => none
      | none => none) = _
    rw [e S]
    exact if_pos ⟨g.sho, g.dic, Nat.le_trans g.dep hn, Nat.le_trans g.len hw⟩
theorem Gd.mono {m : Nat} (hm : n ≤ m) (h : Gd n d) : Gd m d := by
  induction h generalizing m with
  | non => exact .non
  | bl => exact .bl
  | int h => exact .int h
  | str h => exact .str h
  | @lst k l h ih =>
    obtain ⟨j, rfl⟩ : ∃ j, m = j + 1 := ⟨m - 1, by omega⟩
    exact .lst fun d hd => ih d hd (by omega)
  | @tup k l h ih =>
    obtain ⟨j, rfl⟩ : ∃ j, m = j + 1 := ⟨m - 1, by omega⟩
    exact .tup fun d hd => ih d hd (by omega)
theorem Gd.map {γ : Type} {f : γ → D} {l : List γ} (h : ∀ a ∈ l, Gd n (f a)) : ∀ d ∈ l.map f, Gd n d := fun d hd => by
  obtain ⟨a, ha, rfl⟩ := List.mem_map.mp hd
  exact h a ha
end
end DL
end
section
set_option maxHeartbeats 400000
namespace ML
abbrev Q4 := Int × Int × Int × Int
def lexQ (p q : Q4) : Bool := decide (p.1 < q.1 ∨ (p.1 = q.1 ∧ (p.2.1 < q.2.1 ∨ (p.2.1 = q.2.1 ∧ (p.2.2.1 < q.2.2.1 ∨ (p.2.2.1 = q.2.2.1 ∧ p.2.2.2 < q.2.2.2))))))
def sortQ (l : List Q4) : List Q4 := l.mergeSort fun p q => !lexQ q p
theorem lexQ_no {p q : Q4} : lexQ p q = false ↔ ¬ (p.1 < q.1 ∨ (p.1 = q.1 ∧ (p.2.1 < q.2.1 ∨ (p.2.1 = q.2.1 ∧ (p.2.2.1 < q.2.2.1 ∨ (p.2.2.1 = q.2.2.1 ∧ p.2.2.2 < q.2.2.2)))))) := by
  unfold lexQ
  rw [decide_eq_false_iff_not]
theorem sortQ_perm (l : List Q4) : (sortQ l).Perm l := List.mergeSort_perm _ _
theorem sortQ_srt (l : List Q4) : (sortQ l).Pairwise fun x y => lexQ y x = false := by
  have := List.pairwise_mergeSort (le := fun p q : Q4 => !lexQ q p) (fun a b c h1 h2 => by
    simp only [Bool.not_eq_true'] at *
    have a1 := lexQ_no.mp h1
    have a2 := lexQ_no.mp h2
    exact lexQ_no.mpr (by omega)) (fun a b => by
    cases e1 : lexQ b a with
    | false => simp
    | true =>
      have q := of_decide_eq_true e1
      have : lexQ a b = false := lexQ_no.mpr (by omega)
      simp [this]) l
  exact this.imp fun {a b} h => by simpa using h
theorem sortQ_uniq {ns ms : List Q4} (h : ms.Perm ns) (s : ms.Pairwise (fun x y => lexQ y x = false)) : ms = sortQ ns := by
  refine List.Perm.eq_of_pairwise (le := fun x y : Q4 => lexQ y x = false) (fun a b _ _ h1 h2 => ?_) s (sortQ_srt ns) (h.trans (sortQ_perm ns).symm)
  have a1 := lexQ_no.mp h1
  have a2 := lexQ_no.mp h2
  exact Prod.ext (by omega) (Prod.ext (by omega) (Prod.ext (by omega) (by omega)))
end ML
end
section
set_option maxHeartbeats 4000000
namespace SrtQ
open PySem PyProof.Rows Srt SrtO
open ML (Q4 lexQ lexQ_no)
variable {prog : Program} {w : World} {A : Around} {E : Value → Shared → Prop} {s : Shared}
def IsQ (h : Heap) (v : Value) (q : Q4) : Prop := ∃ a o t1 t2 t3 t4 n, v = .ref a ∧ h.get? a = some o ∧ o.cls = .type "tuple" ∧ o.data = .seq #[.int q.1 t1, .int q.2.1 t2, .int q.2.2.1 t3, .int q.2.2.2 t4] n
theorem IsQ.keeps {h h' : Heap} {v : Value} {q : Q4} (x : IsQ h v q) (k : ∀ b o, h.get? b = some o → o.cls = .type "tuple" → h'.get? b = some o) : IsQ h' v q := by
  obtain ⟨a, o, t1, t2, t3, t4, n, e, ho, hc, hd⟩ := x
  exact ⟨a, o, t1, t2, t3, t4, n, e, k _ _ ho hc, hc, hd⟩
end SrtQ
namespace DL
open PySem PySem.Spec L2
open PyProof.Rows hiding St
open ML (Q4 sortQ sortQ_uniq sortQ_perm lexQ)
section
variable {X : Cx} {T : Tab} {EE : XX}
end
end DL
end
section
set_option maxHeartbeats 4000000
namespace DL
open PySem PySem.Spec L2
open PyProof.Rows hiding St
section
variable {X : Cx} {T : Tab} {EE : XX}
open Classical in
noncomputable def compV (n : Nat) (L : List D) (p : Pat) (ft : En → M Bool) (fe : En → M D) (ρ : En) : List D → M (List D)
  | [] => fun S => if S[n]? = some ⟨true, .lst L⟩ then .ok [] S else .stuck
  | d :: ds => fun S => if S[n]? = some ⟨true, .lst L⟩ then (putC (p.put d ρ) fun ρ1 => M.bind (calmM (ft ρ1)) fun b => if b = true then M.bind (calmM (fe ρ1)) fun y => M.bind (compV n L p ft fe ρ ds) fun l S => .ok (y :: l) S else compV n L p ft fe ρ ds) S else .stuck
section
variable {n : Nat} {L : List D} {p : Pat} {ft : En → M Bool} {fe : En → M D} {ρ : En} {S : Cells}
end
end
end DL
end
section
set_option maxHeartbeats 4000000
namespace DL
open PySem PySem.Spec L2
open PyProof.Rows hiding St
section
variable {γ : Type} {S : Cells} {ρ : En} {p : Pat} {ft : En → M Bool} {fe : En → M D} {QL : List D → Cells → Prop} {E : Xc → Cells → Prop} {a : M D} {vs : List Nat}
end
end DL
end
section
set_option maxHeartbeats 0
namespace DL
open PySem PySem.Spec L2
open PyProof.Rows hiding St
section
variable {X : Cx} {T : Tab} {EE : XX} {pos : Pos}
end
section
variable {X : Cx} {T : Tab} {EE : XX} {e o i : Expr} {f fo fi : En → M D} {p pos : Pos}
end
section
variable {X : Cx} {T : Tab} {EE : XX} {e o : Expr} {es : List Expr} {fo : En → M D} {fs : En → M (List D)} {apos cpos : Pos}
end
end DL
end
section
set_option maxHeartbeats 4000000
namespace DL
open PySem PySem.Spec L2
open PyProof.Rows hiding St

section
variable {X : Cx} {pins : List (Addr × Obj)} {σ : St} {H : Hp} {s : Shared}
end
section
variable {X : Cx} {x n : Str} {c : Value} {i : Nat} {body suite : List Stmt} {b₀ : Stmt} {np pos pos' : Pos} {tb : WX → TS} {ts : Addr → TS}
end

structure XcF (K : PySem.W.Frag) (C : Addr) : Prop where
  ex : PySem.W.excIn K C [.type "ValueError", .type "Exception", .type "BaseException", .type "object"] "ValueError.__new__" = true
  kp : PySem.W.keepIn K (.ref C) = true
  sub : PySem.W.subIn K (.ref C) (.type "BaseException") = some true
  ty : PySem.W.typeIn K (.ref C) = some (.type "type")
section
variable {X : Cx} {T : Tab} {W : WX}
end

structure FnX (P : Program) (w : World) (K : PySem.W.Frag) (mg : Str → Option Value) (base : Heap) (k : Nat) (f : Addr) (fd : FuncData) (ps : List Str) (sp : Sp) : Prop where
  len : ∀ vs H Q E, sp vs H Q E → vs.length = ps.length
  run : ∀ (A : Around) (outer : List Env) (s : Shared) (H : Hp) (args : Args) (us : List Value) (vs : List V) (Q : VK) (E : XK), Room k A → NoRepr A →
    Env0 P w K mg base A outer s H → BindsTo s fd args (ps.zip us) → Vals vs us → sp vs H Q E → codeAny (model P w) A (.call (.ref f) args) (CR (L2N.CX P w) outer P w H s Q E) s
theorem FnX.mono {P : Program} {w : World} {K : PySem.W.Frag} {mg : Str → Option Value} {base : Heap} {j k : Nat} {f : Addr} {fd : FuncData} {ps : List Str} {sp : Sp} (F : FnX P w K mg base j f fd ps sp) (h : j ≤ k) : FnX P w K mg base k f fd ps sp :=
  ⟨F.len, fun A outer s H args us vs Q E hr => F.run A outer s H args us vs Q E (hr.mono h)⟩
section
variable {P : Program} {w : World} {K : PySem.W.Frag} {mg : Str → Option Value} {base : Heap} {T : Tab}
end

section
variable {X : Cx} {T : Tab} {W : WX} {j k n : Nat} {f : Addr} {fd : FuncData} {ps : List Str} {sp : Sp} {x : Str} {p pos : Pos} {e : Expr} {es : List Expr} {t : TA} {fs : En → M (List D)}
end

section
variable {X : Cx} {T : Tab} {EE : XX} {x n : Str} {c : Value} {i : Nat} {body suite : List Stmt} {b₀ : Stmt} {np pos pos' : Pos} {F G : SM} {ok : Nat → Bool}
end

section
variable {X : Cx} {T : Tab} {EE : XX} {e : Expr} {fe : En → M D} {pos : Pos}
end
end DL
end
section
set_option maxHeartbeats 4000000
namespace DL
open PySem PySem.Spec L2
open PyProof.Rows hiding St
section
variable {prog : Program} {w : World} {A : Around} {E : Value → Shared → Prop} {s : Shared}
end

def QtX (X : Cx) : Prop := X.calm = true ∨ ∃ (a : Addr) (oe : Obj) (u : HO) (vs : Array Value), X.A.handled = some (.ref a) ∧ X.H_0 a = some (.frz oe u) ∧ oe.data = .fields vs ∧ vs[2]? = some .none
section
variable {X : Cx} {pins : List (Addr × Obj)} {σ : St} {H H' : Hp} {s s' : Shared}
theorem QtX.at (q : QtX X) (I : Inv X pins σ H s) : X.A.handled = none ∨ ∃ a, HotX.HotAt X.A a s.heap ∧ H a ≠ none := by
  rcases q with q | ⟨a, oe, u, vs, h1, h2, h3, h4⟩
  · exact .inl (I.ok.hd q)
  · have e := I.base.frzs a oe u h2
    obtain ⟨g, _⟩ := I.hok a _ e
    exact .inr ⟨a, ⟨h1, oe, vs, g, h3, h4⟩, by rw [e]; simp⟩
theorem QtX.blk (q : QtX X) (I : Inv X pins σ H s) {s2 : Shared} {scope : Scope} {ce : Env} {fp : List Addr} (k : ∀ a o u, H a = some (.frz o u) → H' a = some (.frz o u)) : QtX (X.blk s2 H' scope ce fp) := by
  rcases q with q | ⟨a, oe, u, vs, h1, h2, h3, h4⟩
  · exact .inl q
  · exact .inr ⟨a, oe, u, vs, h1, k _ _ _ (I.base.frzs a oe u h2), h3, h4⟩
end
end DL
end
section
set_option maxHeartbeats 4000000
namespace DL
open PySem PySem.Spec L2
open PyProof.Rows hiding St
section
variable {X : Cx}
end
section
variable {X : Cx} {T : Tab} {EE : XX} {e tg : Expr} {f : En → M D}
variable {i : Nat} {y : Str} {py : Pos} {elt iter : Expr} {ifs : List Expr} {scope : Scope} {own : List (Str × Nat)} {pos spos : Pos} {p : Pat} {ft : En → M Bool} {fe : En → M D}
end
end DL
end
section
set_option maxHeartbeats 4000000
namespace DL
open PySem PySem.Spec L2
open PyProof.Rows hiding St
theorem _root_.L2H.RoomH.units {k : Nat} {A : Around} (r : L2H.RoomH k A) : A.units + 64 < cLine := by have := r.un; omega
section
variable {X : Cx} {T : Tab} {EE : XX} {e : Expr}
end

structure FnT (P : Program) (w : World) (K : PySem.W.Frag) (T : Tab) (mg : Str → Option Value) (base : Heap) (k : Nat) (f : Addr) (fd : FuncData) (x : Str) (g : List D → M D) : Prop where
  run : ∀ (A : Around) (outer : List Env) (s : Shared) (H : Hp) (a : Addr) (oe : Obj) (vs : Array Value) (c : Nat) (z : Str) (S' : Cells) (Q : VK), L2H.RoomH k A → NoRepr A → A.handled = some (.ref a) → oe.data = .fields vs → vs[2]? = some .none → H a = some (.frz oe (ExA (.ref (T.E c)) a)) →
    Env0 P w K mg base A outer s H → BindsTo s fd ⟨[.ref a], []⟩ [(x, .ref a)] → g [.ext (c + 1) []] [] = .ok (.str z) S' → (∀ H', Same H H' → z.length ≤ sizeLine → Q (.str z) H') → codeAny (model P w) A (.call (.ref f) ⟨[.ref a], []⟩) (CR CX0 outer P w H s Q E0) s
section
variable {P : Program} {w : World} {K : PySem.W.Frag} {mg : Str → Option Value} {base : Heap} {T : Tab}
end
theorem FnT.mono {P : Program} {w : World} {K : PySem.W.Frag} {T : Tab} {mg : Str → Option Value} {base : Heap} {j k : Nat} {f : Addr} {fd : FuncData} {x : Str} {g : List D → M D} (F : FnT P w K T mg base j f fd x g) (h : j ≤ k) : FnT P w K T mg base k f fd x g :=
  ⟨fun A outer s H a oe vs c z S' Q hr => F.run A outer s H a oe vs c z S' Q (hr.mono h)⟩
section
variable {X : Cx} {T : Tab} {EE : XX} {j k i : Nat} {y x n : Str} {g : List D → M D} {a : Addr} {pn : List (Addr × Obj)} {p p2 pos pos' : Pos}
end
theorem Hold.same {K : PySem.W.Frag} {T : Tab} {γ hid : List Addr} {S : Cells} {H H' : Hp} (h : Hold K T γ hid S H) (s : Same H H') : Hold K T γ hid S H' ∧ Ext γ S H γ S H' := by
  have sm : ∀ hd, Same (out γ S hd H) (out γ S hd H') := fun hd b o hb => by
    obtain ⟨a1, a2, a3⟩ := out_some.mp hb
    exact out_some.mpr ⟨a1, a2, s b o a3⟩
  refine ⟨⟨h.len, h.nd, fun n a c e1 e2 => ?_, fun a ha q => ?_, h.hidG⟩, ⟨fun _ _ q => q, sm []⟩⟩
  · obtain ⟨o, ho, r⟩ := h.cell n a c e1 e2
    exact ⟨o, s a o ho, r.mono (sm hid)⟩
  · cases e : H a with
    | none => exact h.hidT a ha e
    | some o =>
      rw [s a o e] at q
      cases q
section
variable {X : Cx} {T : Tab} {EE : XX} {j k i : Nat} {y x n cn : Str} {c : Value} {g : List D → M D} {body : List Stmt} {np p p2 pos pos' pos2 pos3 : Pos} {F : SM} {ok : Nat → Bool}
end
section
variable {X : Cx} {T : Tab} {EE : XX} {j k : Nat} {x : Str} {p pos : Pos} {g : List D → M D}
end
theorem ev_d0 {X : Cx} {T : Tab} {EE : XX} {pos : Pos} : EvE X T EE (.Dict [] [] pos) (fun _ => kon (.ext 0 [])) := by
  refine ⟨pe_dnewK.dimp fun σ H Q h => ?_⟩
  intro p np
  obtain ⟨γ, hid, S, ρ, h1, h2, h3⟩ := h
  obtain ⟨a1, a2, a3⟩ := h1.lay np (.dK [])
  exact h3 γ _ _ a1 a2 (.dc0 (a3 hid (h1.fresh np).2))
end DL
end
section
set_option maxHeartbeats 400000
namespace DL
open PySem PySem.Spec L2
open PyProof.Rows hiding St
/-- no list is in it -/
def noL : D → Bool
  | .lst _ => false
  | .tup l => l.attach.all fun ⟨d, _⟩ => noL d
  | .obj _ l => l.attach.all fun ⟨d, _⟩ => noL d
  | .ext _ l => l.attach.all fun ⟨d, _⟩ => noL d
  | _ => true
def noLL (l : List D) : Bool := l.all noL
theorem noL_tup (l : List D) : noL (.tup l) = noLL l := by
  unfold noL noLL
  simp
theorem noL_obj (c : Nat) (l : List D) : noL (.obj c l) = noLL l := by
  unfold noL noLL
  simp
theorem noL_int (i : Int) : noL (.int i) = true := by simp [noL]
theorem noLL_cons (d : D) (l : List D) : noLL (d :: l) = (noL d && noLL l) := rfl
section
variable {K : PySem.W.Frag} {T : Tab} {γ : List Addr} {F F' : Hp} {a : Addr} {ws : List V}
mutual
theorem Rp.nol (ha : F a = some (.lst ws)) (hs : ∀ b o, b ≠ a → F b = some o → F' b = some o) : ∀ (d : D) (v : V), noL d = true → Rp K T γ F d v → Rp K T γ F' d v
  | .non, _, _, h => by cases h; exact .non
  | .bl _, _, _, h => by cases h; exact .bl _
  | .int _, _, _, h => by cases h; exact .int _
  | .str _, _, _, h => by cases h with | str x z => exact .str _ z
  | .lst ds, _, n, _ => by simp [noL] at n
  | .tup ds, _, n, h => by
    rw [noL_tup] at n
    cases h with
    | tup q z b =>
      refine .tup ?_ z (RpL.nol ha hs ds _ n b)
      rcases q with (q | ⟨o, q⟩) | q
      · exact .inl (.inl (hs _ _ (fun e => by rw [e, ha] at q; cases q) q))
      · exact .inl (.inr ⟨o, hs _ _ (fun e => by rw [e, ha] at q; cases q) q⟩)
      · exact .inr q
  | .ref n, _, _, h => by cases h with | ref q => exact .ref q
  | .obj c ds, _, n, h => by
    rw [noL_obj] at n
    cases h with | obj q b e => exact .obj (hs _ _ (fun e => by rw [e, ha] at q; cases q) q) b (RpL.nol ha hs ds _ n e)
  | .ext c ds, _, n, h => by
    cases h with
    | exc q => exact .exc (hs _ _ (fun e => by rw [e, ha] at q; cases q) q)
    | dc0 q => exact .dc0 (hs _ _ (fun e => by rw [e, ha] at q; cases q) q)
theorem RpL.nol (ha : F a = some (.lst ws)) (hs : ∀ b o, b ≠ a → F b = some o → F' b = some o) : ∀ (ds : List D) (vs : List V), noLL ds = true → RpL K T γ F ds vs → RpL K T γ F' ds vs
  | [], _, _, h => by cases h; exact .nil
  | d :: ds, _, n, h => by
    rw [noLL_cons, Bool.and_eq_true] at n
    cases h with | cons x y => exact .cons (Rp.nol ha hs d _ n.1 x) (RpL.nol ha hs ds _ n.2 y)
end
def nolC : CC → Bool
  | .lst l => noLL l
  | .ins _ fs => noLL (fs.map (·.2))
  | .dct kvs => noLL (kvs.map (·.2))
theorem CRep.nol (ha : F a = some (.lst ws)) (hs : ∀ b o, b ≠ a → F b = some o → F' b = some o) {c : CC} {o : HO} (n : nolC c = true) (h : CRep K T F c o) : CRep K T F' c o := by
  cases h with
  | lst z r => exact .lst z (RpL.nol ha hs _ _ n r)
  | ins e r => exact .ins e (RpL.nol ha hs _ _ n r)
  | dct e r => exact .dct e (RpL.nol ha hs _ _ n r)
end
/-- the cells but n hold no list -/
def nolS (n : Nat) (S : Cells) : Prop := ∀ m c, S[m]? = some c → m ≠ n → nolC c.c = true
open Classical in
/-- f, the changing list of slot i lent to it -/
noncomputable def lend {α : Type} (cond : α → Bool) (i : Nat) (f : En → M α) : En → M α := fun ρ S => match ρ[i]? with
  | some (some (.ref n)) => (match S[n]? with
    | some ⟨true, .lst l⟩ => (match f (ρ.set i (some (.lst l))) (S.set n ⟨false, .lst l⟩) with
      | .ok d S2 => if S2 = S.set n ⟨false, .lst l⟩ ∧ cond d = true ∧ nolS n S then .ok d S else .stuck
      | _ => .stuck)
    | _ => .stuck)
  | _ => .stuck
section
variable {K : PySem.W.Frag} {T : Tab} {EE : XX}
theorem thaw {γ γ' hid : List Addr} {S : Cells} {H H' : Hp} {n : Nat} {l : List D} (h : Hold K T γ hid S H) (e : S[n]? = some ⟨true, .lst l⟩) (hn : nolS n S) (h' : Hold K T γ' hid (S.set n ⟨false, .lst l⟩) H') (x : Ext γ (S.set n ⟨false, .lst l⟩) H γ' (S.set n ⟨false, .lst l⟩) H') :
    Hold K T γ' hid S H' ∧ Ext γ S H γ' S H' ∧ ∃ a ws, out γ' (S.set n ⟨false, .lst l⟩) hid H' a = some (.lst ws) ∧ ∀ b o, b ≠ a → out γ' (S.set n ⟨false, .lst l⟩) hid H' b = some o → out γ' S hid H' b = some o := by
  have eg : γ' = γ := by
    refine List.ext_getElem? fun k => ?_
    cases q : γ[k]? with
    | some b => exact x.pre k b q
    | none =>
      have h1 := h.len
      have h2 := h'.len
      rw [List.length_set] at h2
      rw [List.getElem?_eq_none_iff] at q ⊢
      omega
  subst eg
  obtain ⟨a, ga⟩ := h.at e
  obtain ⟨vs, hv, hz, hr⟩ := h.list ga e
  have hlt := (List.getElem?_eq_some_iff.mp e).1
  have hah : a ∉ hid := fun q => h.hidG a q (List.mem_of_getElem? ga)
  have fr := (h.freeze e).1
  have la : liveAt γ' (S.set n ⟨false, .lst l⟩) a = false := fr.live ga (List.getElem?_set_self hlt)
  have lo : ∀ b, liveAt γ' S b = false → liveAt γ' (S.set n ⟨false, .lst l⟩) b = false := fun b hb => by
    cases q : liveAt γ' (S.set n ⟨false, .lst l⟩) b with
    | false => rfl
    | true =>
      obtain ⟨m, c, h1, h2, h3⟩ := liveAt_iff.mp q
      by_cases hm : n = m
      · subst hm
        rw [List.getElem?_set_self hlt] at h2
        cases h2
        cases h3
      · rw [List.getElem?_set_ne hm] at h2
        rw [liveAt_iff.mpr ⟨m, c, h1, h2, h3⟩] at hb
        cases hb
  have lb : ∀ b, b ≠ a → liveAt γ' (S.set n ⟨false, .lst l⟩) b = false → liveAt γ' S b = false := fun b hb q => by
    cases q2 : liveAt γ' S b with
    | false => rfl
    | true =>
      obtain ⟨m, c, h1, h2, h3⟩ := liveAt_iff.mp q2
      by_cases hm : n = m
      · subst hm
        rw [ga] at h1
        cases h1
        exact absurd rfl hb
      · rw [liveAt_iff.mpr ⟨m, c, h1, by rw [List.getElem?_set_ne hm]; exact h2, h3⟩] at q
        cases q
  have sm : ∀ hd, Same (out γ' S hd H) (out γ' S hd H') := fun hd b o hb => by
    obtain ⟨b1, b2, b3⟩ := out_some.mp hb
    obtain ⟨_, _, c3⟩ := out_some.mp (x.same b o (out_some.mpr ⟨by simp, lo b b2, b3⟩))
    exact out_some.mpr ⟨b1, b2, c3⟩
  have hv' : H' a = some (.lst vs) := (out_some.mp (x.same a _ (out_some.mpr ⟨by simp, la, hv⟩))).2.2
  have oa : out γ' (S.set n ⟨false, .lst l⟩) hid H' a = some (.lst vs) := out_some.mpr ⟨hah, la, hv'⟩
  have ob : ∀ b o, b ≠ a → out γ' (S.set n ⟨false, .lst l⟩) hid H' b = some o → out γ' S hid H' b = some o := fun b o hb q => by
    obtain ⟨b1, b2, b3⟩ := out_some.mp q
    exact out_some.mpr ⟨b1, lb b hb b2, b3⟩
  refine ⟨⟨h.len, h.nd, fun m b c e1 e2 => ?_, h'.hidT, h.hidG⟩, ⟨fun _ _ q => q, sm []⟩, a, vs, oa, ob⟩
  by_cases hm : n = m
  · subst hm
    rw [ga] at e1
    cases e1
    rw [e] at e2
    cases e2
    exact ⟨_, hv', .lst hz (hr.nil_any (sm hid))⟩
  · obtain ⟨o, ho, r⟩ := h'.cell m b c e1 (by rw [List.getElem?_set_ne hm]; exact e2)
    exact ⟨o, ho, r.nol oa ob (hn m c e2 (Ne.symm hm))⟩
theorem lend_go {α β : Type} {rep : List Addr → Hp → α → β → Prop} {cond : α → Bool} {i : Nat} (hr : ∀ (γ : List Addr) (F F' : Hp) (a : Addr) (ws : List V) (x : α) (b : β), cond x = true → F a = some (.lst ws) → (∀ c o, c ≠ a → F c = some o → F' c = some o) → rep γ F x b → rep γ F' x b)
    {f : En → M α} {σ : St} {H : Hp} {Q : β → Hp → Prop} (h : dG K T EE rep (lend cond i f) σ H Q) : dG K T EE rep f σ H Q := by
  obtain ⟨γ, hid, S, ρ, hold, env, h⟩ := h
  unfold lend at h
  split at h
  · rename_i n en
    split at h
    · rename_i l el
      obtain ⟨v, ev, rv⟩ := env.get i _ en
      cases rv with
      | ref ga =>
        obtain ⟨f1, f2⟩ := hold.freeze el
        obtain ⟨vs, hv, hz, hrl⟩ := hold.list ga el
        have hlt := (List.getElem?_eq_some_iff.mp el).1
        have hah := fun q => hold.hidG _ q (List.mem_of_getElem? ga)
        have la := f1.live ga (List.getElem?_set_self hlt)
        refine ⟨γ, hid, S.set n ⟨false, .lst l⟩, ρ.set i (some (.lst l)), f1, ?_, ?_⟩
        · have e1 := (env.mono f2.pre (f2.sameH hid)).set i (d := .lst l) (v := .ref _) (.lst (.inl (.inl (out_some.mpr ⟨hah, la, hv⟩))) hz (hrl.nil_any (f2.sameH hid)))
          have e2 : σ.set i (some (.ref _)) = σ := List.ext_getElem? fun k => by
            by_cases hk : i = k
            · subst hk
              rw [List.getElem?_set_self (List.getElem?_eq_some_iff.mp ev).1, ev]
            · rw [List.getElem?_set_ne hk]
          rw [e2] at e1
          exact e1
        · cases eq : f (ρ.set i (some (.lst l))) (S.set n ⟨false, .lst l⟩) with
          | ok d S2 =>
            rw [eq] at h
            dsimp only at h
            by_cases hc : S2 = S.set n ⟨false, .lst l⟩ ∧ cond d = true ∧ nolS n S
            · rw [if_pos hc] at h
              obtain ⟨rfl, h2, h3⟩ := hc
              intro γ' H' b a1 a2 a3
              obtain ⟨t1, t2, a, ws, t3, t4⟩ := thaw hold el h3 a1 a2
              exact h γ' H' b t1 t2 (hr _ _ _ a ws d b h2 t3 t4 a3)
            · rw [if_neg hc] at h
              exact h.elim
          | err x S2 => rw [eq] at h; exact h.elim
          | stuck => rw [eq] at h; exact h.elim
    · exact h.elim
  · exact h.elim
end
section
variable {X : Cx} {T : Tab} {EE : XX} {e : Expr}
theorem ev_lend (i : Nat) {f : En → M D} (h : EvE X T EE e f) : EvE X T EE e (lend noL i f) := ⟨h.pe.dimp fun σ H Q q => lend_go (rep := repE X.K T) (fun γ F F' a ws x b h1 h2 h3 h4 => Rp.nol h2 h3 x b h1 h4) q⟩
theorem evL_lend (i : Nat) {f : En → M (List D)} (h : EvL X T EE e f) : EvL X T EE e (lend noLL i f) := ⟨h.pe.dimp fun σ H Q q => lend_go (rep := repL X.K T) (fun γ F F' a ws x b h1 h2 h3 h4 => ⟨h4.1, RpL.nol h2 h3 x b h1 h4.2⟩) q⟩
end
end DL
end
section
set_option maxHeartbeats 400000
namespace DL
open PySem PySem.Spec L2
open PyProof.Rows hiding St
section
variable {α : Type} {cond : α → Bool} {i n : Nat} {l : List D} {f : En → M α} {ρ : En} {S : Cells} {Q : α → Cells → Prop} {E : Xc → Cells → Prop}
theorem w_lend (h1 : ρ[i]? = some (some (.ref n))) (h2 : S[n]? = some ⟨true, .lst l⟩) (hn : nolS n S) (h : wp (f (ρ.set i (some (.lst l))) (S.set n ⟨false, .lst l⟩)) (fun d S2 => S2 = S.set n ⟨false, .lst l⟩ ∧ cond d = true ∧ Q d S) noE) : wp (lend cond i f ρ S) Q E := by
  unfold lend
  rw [h1]
  dsimp only
  rw [h2]
  dsimp only
  cases e : f (ρ.set i (some (.lst l))) (S.set n ⟨false, .lst l⟩) with
  | ok d S2 =>
    rw [e] at h
    obtain ⟨h3, h4, q⟩ := h
    dsimp only
    rw [if_pos ⟨h3, h4, hn⟩]
    exact q
  | err x S2 => rw [e] at h; exact h.elim
  | stuck => rw [e] at h; exact h.elim
/-- no cell holds a list -/
def NolA (S : Cells) : Prop := ∀ (m : Nat) (c : Cell), S[m]? = some c → nolC c.c = true
theorem NolA.s {S : Cells} (h : NolA S) (n : Nat) : nolS n S := fun m c e _ => h m c e
theorem NolA.nil : NolA [] := fun m c e => by simp at e
theorem NolA.app {S : Cells} (h : NolA S) {c : Cell} (hc : nolC (Cell.c c) = true) : NolA (S ++ [c]) := fun m d e => by
  by_cases q : m < S.length
  · rw [List.getElem?_append_left q] at e
    exact h m d e
  · rw [List.getElem?_append_right (by omega)] at e
    have := List.mem_of_getElem? e
    rw [List.mem_singleton] at this
    rw [this]
    exact hc
theorem NolA.set {S : Cells} (h : NolA S) {n : Nat} {c : Cell} (hc : nolC (Cell.c c) = true) : NolA (S.set n c) := fun m d e => by
  by_cases q : n = m
  · subst q
    rw [List.getElem?_set_self (by have := (List.getElem?_eq_some_iff.mp e).1; rwa [List.length_set] at this)] at e
    cases e
    exact hc
  · rw [List.getElem?_set_ne q] at e
    exact h m d e
theorem NolA.take {S : Cells} (h : NolA S) (k : Nat) : NolA (S.take k) := fun m d e => by
  rw [List.getElem?_take] at e
  split at e
  · exact h m d e
  · cases e
theorem noLL_map {γ : Type} {g : γ → D} {l : List γ} (h : ∀ x ∈ l, noL (g x) = true) : noLL (l.map g) = true := List.all_eq_true.mpr fun d hd => by
  obtain ⟨x, hx, rfl⟩ := List.mem_map.mp hd
  exact h x hx
end
end DL
end
section
set_option maxHeartbeats 4000000
namespace K12
open PySem PySem.Spec L2 DL
open PyProof.Rows hiding St
def top (i : Nat) : Stmt := PySem.Challenge.pw_scanmisses_k12_profiles_made_of_pieces.main.body.getD i (.Pass ⟨0, 0, 0, 0⟩)
abbrev s_is_int : Stmt := top 7
abbrev s_in_range : Stmt := top 8
abbrev s_is_piece : Stmt := top 13
abbrev s_are_pieces : Stmt := top 14
abbrev s_joined_pieces : Stmt := top 15
abbrev s_Profile___init__ : Stmt := inClass (top 17) 0
abbrev s_Profile_pieces : Stmt := inClass (top 17) 2
abbrev s_Profile_accesses : Stmt := inClass (top 17) 3
abbrev s_Profile___eq__ : Stmt := inClass (top 17) 10
abbrev s__law_pond : Stmt := top 20
abbrev s__law_dip : Stmt := top 21
abbrev s__law_given : Stmt := top 22
abbrev s__law_many : Stmt := top 23
abbrev s__law_joined : Stmt := top 24
abbrev s_Profile_cold : Stmt := inClass (top 17) 1
abbrev s__law_halved : Stmt := top 25
abbrev s__law_near : Stmt := top 26
abbrev s__law_right : Stmt := top 27
abbrev s_law : Stmt := top 28
abbrev N_is_int : List Str := ["value"]
theorem sc_is_int : FnScope N_is_int ["value"] (defScope s_is_int) := ⟨rfl, rfl, rfl, by decide +kernel, rfl, by decide +kernel, by decide +kernel⟩
def d_is_int : DefQ := ⟨fun K => He.ga K "is_int", "is_int", "is_int", defArgs s_is_int, defBody s_is_int, defScope s_is_int⟩
abbrev N_in_range : List Str := ["value", "low", "high"]
theorem sc_in_range : FnScope N_in_range ["value", "low", "high"] (defScope s_in_range) := ⟨rfl, rfl, rfl, by decide +kernel, rfl, by decide +kernel, by decide +kernel⟩
def d_in_range : DefQ := ⟨fun K => He.ga K "in_range", "in_range", "in_range", defArgs s_in_range, defBody s_in_range, defScope s_in_range⟩
abbrev N_is_piece : List Str := ["value"]
theorem sc_is_piece : FnScope N_is_piece ["value"] (defScope s_is_piece) := ⟨rfl, rfl, rfl, by decide +kernel, rfl, by decide +kernel, by decide +kernel⟩
def d_is_piece : DefQ := ⟨fun K => He.ga K "is_piece", "is_piece", "is_piece", defArgs s_is_piece, defBody s_is_piece, defScope s_is_piece⟩
abbrev N_are_pieces : List Str := ["value", "one", "other", "piece"]
theorem sc_are_pieces : FnScope N_are_pieces ["value"] (defScope s_are_pieces) := ⟨rfl, rfl, rfl, by decide +kernel, rfl, by decide +kernel, by decide +kernel⟩
def d_are_pieces : DefQ := ⟨fun K => He.ga K "are_pieces", "are_pieces", "are_pieces", defArgs s_are_pieces, defBody s_are_pieces, defScope s_are_pieces⟩
abbrev N_joined_pieces : List Str := ["pieces", "events", "rows", "often", "begin", "place", "change", "starts", "ends", "joined", "spot", "start", "end", "piece", "low", "high", "times"]
theorem sc_joined_pieces : FnScope N_joined_pieces ["pieces"] (defScope s_joined_pieces) := ⟨rfl, rfl, rfl, by decide +kernel, rfl, by decide +kernel, by decide +kernel⟩
def d_joined_pieces : DefQ := ⟨fun K => He.ga K "joined_pieces", "joined_pieces", "joined_pieces", defArgs s_joined_pieces, defBody s_joined_pieces, defScope s_joined_pieces⟩
abbrev N_Profile___init__ : List Str := ["self", "cold", "pieces"]
theorem sc_Profile___init__ : FnScope N_Profile___init__ ["self", "cold", "pieces"] (defScope s_Profile___init__) := ⟨rfl, rfl, rfl, by decide +kernel, rfl, by decide +kernel, by decide +kernel⟩
def d_Profile___init__ : DefQ := ⟨fun K => He.ma K (He.ga K "Profile") "__init__", "__init__", "Profile.__init__", defArgs s_Profile___init__, defBody s_Profile___init__, defScope s_Profile___init__⟩
abbrev N_Profile_pieces : List Str := ["self"]
theorem sc_Profile_pieces : FnScope N_Profile_pieces ["self"] (defScope s_Profile_pieces) := ⟨rfl, rfl, rfl, by decide +kernel, rfl, by decide +kernel, by decide +kernel⟩
def d_Profile_pieces : DefQ := ⟨fun K => prG K ⟨"Profile", "pieces"⟩, "pieces", "Profile.pieces", defArgs s_Profile_pieces, defBody s_Profile_pieces, defScope s_Profile_pieces⟩
abbrev N_Profile_accesses : List Str := ["self", "low", "high", "times"]
theorem sc_Profile_accesses : FnScope N_Profile_accesses ["self"] (defScope s_Profile_accesses) := ⟨rfl, rfl, rfl, by decide +kernel, rfl, by decide +kernel, by decide +kernel⟩
def d_Profile_accesses : DefQ := ⟨fun K => prG K ⟨"Profile", "accesses"⟩, "accesses", "Profile.accesses", defArgs s_Profile_accesses, defBody s_Profile_accesses, defScope s_Profile_accesses⟩
abbrev N_Profile___eq__ : List Str := ["self", "other"]
theorem sc_Profile___eq__ : FnScope N_Profile___eq__ ["self", "other"] (defScope s_Profile___eq__) := ⟨rfl, rfl, rfl, by decide +kernel, rfl, by decide +kernel, by decide +kernel⟩
def d_Profile___eq__ : DefQ := ⟨fun K => He.ma K (He.ga K "Profile") "__eq__", "__eq__", "Profile.__eq__", defArgs s_Profile___eq__, defBody s_Profile___eq__, defScope s_Profile___eq__⟩
abbrev N__law_pond : List Str := ["script", "k", "cell"]
theorem sc__law_pond : FnScope N__law_pond ["script", "k"] (defScope s__law_pond) := ⟨rfl, rfl, rfl, by decide +kernel, rfl, by decide +kernel, by decide +kernel⟩
def d__law_pond : DefQ := ⟨fun K => He.ga K "_law_pond", "_law_pond", "_law_pond", defArgs s__law_pond, defBody s__law_pond, defScope s__law_pond⟩
abbrev N__law_dip : List Str := ["pond", "many", "drawn", "mixed"]
theorem sc__law_dip : FnScope N__law_dip ["pond", "many"] (defScope s__law_dip) := ⟨rfl, rfl, rfl, by decide +kernel, rfl, by decide +kernel, by decide +kernel⟩
def d__law_dip : DefQ := ⟨fun K => He.ga K "_law_dip", "_law_dip", "_law_dip", defArgs s__law_dip, defBody s__law_dip, defScope s__law_dip⟩
abbrev N__law_given : List Str := ["pond", "wide", "found", "last", "turn", "low"]
theorem sc__law_given : FnScope N__law_given ["pond", "wide"] (defScope s__law_given) := ⟨rfl, rfl, rfl, by decide +kernel, rfl, by decide +kernel, by decide +kernel⟩
def d__law_given : DefQ := ⟨fun K => He.ga K "_law_given", "_law_given", "_law_given", defArgs s__law_given, defBody s__law_given, defScope s__law_given⟩
abbrev N__law_many : List Str := ["pond", "many", "found", "last", "often", "turn", "low"]
theorem sc__law_many : FnScope N__law_many ["pond", "many"] (defScope s__law_many) := ⟨rfl, rfl, rfl, by decide +kernel, rfl, by decide +kernel, by decide +kernel⟩
def d__law_many : DefQ := ⟨fun K => He.ga K "_law_many", "_law_many", "_law_many", defArgs s__law_many, defBody s__law_many, defScope s__law_many⟩
abbrev N__law_joined : List Str := ["given", "found", "low", "high", "often"]
theorem sc__law_joined : FnScope N__law_joined ["given"] (defScope s__law_joined) := ⟨rfl, rfl, rfl, by decide +kernel, rfl, by decide +kernel, by decide +kernel⟩
def d__law_joined : DefQ := ⟨fun K => He.ga K "_law_joined", "_law_joined", "_law_joined", defArgs s__law_joined, defBody s__law_joined, defScope s__law_joined⟩
abbrev N_Profile_cold : List Str := ["self"]
theorem sc_Profile_cold : FnScope N_Profile_cold ["self"] (defScope s_Profile_cold) := ⟨rfl, rfl, rfl, by decide +kernel, rfl, by decide +kernel, by decide +kernel⟩
def d_Profile_cold : DefQ := ⟨fun K => prG K ⟨"Profile", "cold"⟩, "cold", "Profile.cold", defArgs s_Profile_cold, defBody s_Profile_cold, defScope s_Profile_cold⟩
abbrev N__law_halved : List Str := ["pond", "given", "found", "low", "high", "often", "place"]
theorem sc__law_halved : FnScope N__law_halved ["pond", "given"] (defScope s__law_halved) := ⟨rfl, rfl, rfl, by decide +kernel, rfl, by decide +kernel, by decide +kernel⟩
def d__law_halved : DefQ := ⟨fun K => He.ga K "_law_halved", "_law_halved", "_law_halved", defArgs s__law_halved, defBody s__law_halved, defScope s__law_halved⟩
abbrev N__law_near : List Str := ["pond", "cold", "given", "found", "last", "spot", "low", "high", "often"]
theorem sc__law_near : FnScope N__law_near ["pond", "cold", "given"] (defScope s__law_near) := ⟨rfl, rfl, rfl, by decide +kernel, rfl, by decide +kernel, by decide +kernel⟩
def d__law_near : DefQ := ⟨fun K => He.ga K "_law_near", "_law_near", "_law_near", defArgs s__law_near, defBody s__law_near, defScope s__law_near⟩
abbrev N__law_right : List Str := ["pond", "cold", "given", "made", "due", "kept", "size", "turn", "other", "less", "some", "is_same", "thing", "low", "high", "often"]
theorem sc__law_right : FnScope N__law_right ["pond", "cold", "given"] (defScope s__law_right) := ⟨rfl, rfl, rfl, by decide +kernel, rfl, by decide +kernel, by decide +kernel⟩
def d__law_right : DefQ := ⟨fun K => He.ga K "_law_right", "_law_right", "_law_right", defArgs s__law_right, defBody s__law_right, defScope s__law_right⟩
abbrev N_law : List Str := ["script", "k", "pond", "turn", "wide", "given", "one", "two"]
theorem sc_law : FnScope N_law ["script"] (defScope s_law) := ⟨rfl, rfl, rfl, by decide +kernel, rfl, by decide +kernel, by decide +kernel⟩
def d_law : DefQ := ⟨fun K => He.ga K "law", "law", "law", defArgs s_law, defBody s_law, defScope s_law⟩
def fn : List DefQ := [d_is_int, d_in_range, d_is_piece, d_are_pieces, d_joined_pieces, d_Profile___init__, d_Profile_pieces, d_Profile_accesses, d_Profile___eq__, d__law_pond, d__law_dip, d__law_given, d__law_many, d__law_joined, d_Profile_cold, d__law_halved, d__law_near, d__law_right, d_law]
def fa : List He.Fa := [.cls "Profile", .noat "Profile" "own_cold", .noat "Profile" "own_pieces", .glo "Profile", .mkr "Profile", .glo "is_int", .glo "in_range", .glo "is_piece", .glo "are_pieces", .glo "joined_pieces", .glo "_law_pond", .glo "_law_dip", .glo "_law_given", .glo "_law_many", .glo "_law_joined", .glo "_law_halved", .glo "_law_near", .glo "_law_right", .glo "law", .free "isinstance", .free "bool", .free "int", .free "len", .free "tuple", .free "all", .free "list", .free "zip", .free "sorted", .free "range", .free "sum", .free "max", .free "repr", .free "min"]
def pr : List PrD := [⟨"Profile", "cold"⟩, ⟨"Profile", "pieces"⟩, ⟨"Profile", "accesses"⟩]
def op : List OpD := [⟨"Profile", "__eq__"⟩]
def bn : List BnD := []
def xf : List XF := [.ne "Profile", .isi "Profile" [("Profile", true)], .ins "Profile"]
def tab_Profile : List (Nat × Bool) := [(0, true)]
def CN (c : Nat) : Str := (["Profile"] : List Str).getD c ""
def NMf (c : Nat) : List Str := ([["own_cold", "own_pieces"]] : List (List Str)).getD c []
def EN (c : Nat) : Str := ([] : List Str).getD c ""
abbrev TT (K : PySem.W.Frag) : Tab := ⟨fun c => He.ga K (CN c), NMf, fun c => He.ga K (EN c)⟩
noncomputable def B_is_int : SM :=
  (retS fun ρ => (andE (isiE tabInt (rd ρ 0)) (notE (isiE (tabIs "bool") (rd ρ 0)))))
noncomputable def g_is_int : List D → M D := bodyD 1 B_is_int
noncomputable def B_in_range : SM :=
  (retS fun ρ => (andE (callE 1 g_is_int (consM (rd ρ 0) nilA)) (andE (b2 dLe (rd ρ 1) (rd ρ 0)) (orE (b2 dIs (rd ρ 2) (kon .non)) (b2 dLe (rd ρ 0) (rd ρ 2))))))
noncomputable def g_in_range : List D → M D := bodyD 3 B_in_range
noncomputable def B_is_piece : SM :=
  (seqS (ifS (fun ρ => (orM (notT (valT (isiE (tabIs "tuple") (rd ρ 0)))) (b2T dNe (cbE dLen (consM (rd ρ 0) nilA)) (kon (.int 3))))) (retS fun ρ => (kon (.bl false))) nxS)
    (retS fun ρ => (andE (callE 3 g_in_range (consM (b2 ixD (rd ρ 0) (kon (.int 0))) (consM (kon (.int 1)) (consM (kon .non) nilA)))) (andE (callE 3 g_in_range (consM (b2 ixD (rd ρ 0) (kon (.int 1))) (consM (b2 ixD (rd ρ 0) (kon (.int 0))) (consM (kon .non) nilA)))) (callE 3 g_in_range (consM (b2 ixD (rd ρ 0) (kon (.int 2))) (consM (kon (.int 1)) (consM (kon .non) nilA))))))))
noncomputable def g_is_piece : List D → M D := bodyD 1 B_is_piece
noncomputable def B_are_pieces : SM :=
  (seqS (ifS (fun ρ => (orM (notT (valT (isiE (tabIs "list") (rd ρ 0)))) (notT (valT (cbE dAll (consM (frzE (lcL (itS (rd ρ 0)) (.nm 3) (fun ρ => yesM) (fun ρ => (callE 1 g_is_piece (consM (rd ρ 3) nilA))) ρ [3])) nilA)))))) (retS fun ρ => (kon (.bl false))) nxS)
    (retS fun ρ => (cbE dAll (consM (frzE (lcL (itZ (consM (rd ρ 0) (consM (slE (rd ρ 0) (smO (kon (.int 1))) noO) nilA))) (.tp [(.nm 1), (.nm 2)]) (fun ρ => yesM) (fun ρ => (b2 dLt (b2 ixD (rd ρ 1) (kon (.int 1))) (b2 ixD (rd ρ 2) (kon (.int 0))))) ρ [1, 2])) nilA))))
noncomputable def g_are_pieces : List D → M D := bodyD 4 B_are_pieces
noncomputable def L1_joined_pieces : SM :=
  (seqS (ifS (fun ρ => (b2T dGt (rd ρ 5) (rd ρ 4))) (seqS (expS fun ρ => (mthE "list" mAppend (rd ρ 2) (consM (tupE (consM (rd ρ 4) (consM (b2 dSub (rd ρ 5) (kon (.int 1))) (consM (rd ρ 3) nilA)))) nilA)))
    (setS 4 fun ρ => (rd ρ 5))) nxS)
    (setS 3 fun ρ => (b2 dAdd (rd ρ 3) (rd ρ 6))))
noncomputable def B_joined_pieces : SM :=
  (seqS (setS 1 fun ρ => (b2 dAdd (frzE (lcL (itS (rd ρ 0)) (.tp [(.nm 14), (.nm 15), (.nm 16)]) (fun ρ => yesM) (fun ρ => (tupE (consM (rd ρ 14) (consM (rd ρ 16) nilA)))) ρ [14, 15, 16])) (frzE (lcL (itS (rd ρ 0)) (.tp [(.nm 14), (.nm 15), (.nm 16)]) (fun ρ => yesM) (fun ρ => (tupE (consM (b2 dAdd (rd ρ 15) (kon (.int 1))) (consM (b2 dSub (kon (.int 0)) (rd ρ 16)) nilA)))) ρ [14, 15, 16]))))
    (seqS (setS 1 fun ρ => (frzE (cbL sortD (consM (rd ρ 1) nilA))))
    (seqS (setS 2 fun ρ => (celE (lstE nilA)))
    (seqS (asgD (fun ρ => (tupE (consM (kon (.int 0)) (consM (kon (.int 0)) nilA)))) (.tp [(.nm 3), (.nm 4)]))
    (seqS (forS (fun ρ => (itS (rd ρ 1))) (.tp [(.nm 5), (.nm 6)]) L1_joined_pieces)
    (seqS (setS 7 fun ρ => (frzE (lcL (itR1 (consM (cbE dLen (consM (rd ρ 2) nilA)) nilA)) (.nm 10) (fun ρ => (orM (b2T dEq (rd ρ 10) (kon (.int 0))) (b2T dNe (b2 ixD (b2 ixD (rd ρ 2) (rd ρ 10)) (kon (.int 2))) (b2 ixD (b2 ixD (rd ρ 2) (b2 dSub (rd ρ 10) (kon (.int 1)))) (kon (.int 2)))))) (fun ρ => (rd ρ 10)) ρ [10])))
    (seqS (setS 8 fun ρ => (b2 dAdd (slE (rd ρ 7) (smO (kon (.int 1))) noO) (frzE (lstE (consM (cbE dLen (consM (rd ρ 2) nilA)) nilA)))))
    (seqS (setS 9 fun ρ => (frzE (lcL (itZ (consM (rd ρ 7) (consM (rd ρ 8) nilA))) (.tp [(.nm 11), (.nm 12)]) (fun ρ => yesM) (fun ρ => (tupE (consM (b2 ixD (b2 ixD (rd ρ 2) (rd ρ 11)) (kon (.int 0))) (consM (b2 ixD (b2 ixD (rd ρ 2) (b2 dSub (rd ρ 12) (kon (.int 1)))) (kon (.int 1))) (consM (b2 ixD (b2 ixD (rd ρ 2) (rd ρ 11)) (kon (.int 2))) nilA))))) ρ [11, 12])))
    (retS fun ρ => (frzE (lcL (itS (rd ρ 9)) (.nm 13) (fun ρ => (b2T dGt (b2 ixD (rd ρ 13) (kon (.int 2))) (kon (.int 0)))) (fun ρ => (rd ρ 13)) ρ [13])))))))))))
noncomputable def g_joined_pieces : List D → M D := bodyD 17 B_joined_pieces
noncomputable def B_Profile___init__ : SM :=
  (seqS (ifS (fun ρ => (orM (notT (valT (callE 3 g_in_range (consM (rd ρ 1) (consM (kon (.int 0)) (consM (kon .non) nilA)))))) (notT (valT (callE 1 g_are_pieces (consM (rd ρ 2) nilA)))))) stkS nxS)
    (seqS (fldS [0] "own_cold" (fun ρ => (rd ρ 1)) (fun ρ => (rd ρ 0)))
    (fldS [0] "own_pieces" (fun ρ => (cbE dTupleOf (consM (callE 1 g_joined_pieces (consM (rd ρ 2) nilA)) nilA))) (fun ρ => (rd ρ 0)))))
noncomputable def g_Profile___init__ : List D → M D := bodyD 3 B_Profile___init__
noncomputable def B_Profile_pieces : SM :=
  (retS fun ρ => (celE (cbL dListOf (consM (fldM NMf [0] "own_pieces" (rd ρ 0)) nilA))))
noncomputable def g_Profile_pieces : List D → M (List D) := bodyL 1 B_Profile_pieces
noncomputable def B_Profile_accesses : SM :=
  (retS fun ρ => (b2 dAdd (fldM NMf [0] "own_cold" (rd ρ 0)) (cbE dSum (consM (frzE (lcL (itS (fldM NMf [0] "own_pieces" (rd ρ 0))) (.tp [(.nm 1), (.nm 2), (.nm 3)]) (fun ρ => yesM) (fun ρ => (b2 dMul (rd ρ 3) (b2 dAdd (b2 dSub (rd ρ 2) (rd ρ 1)) (kon (.int 1))))) ρ [1, 2, 3])) nilA))))
noncomputable def g_Profile_accesses : List D → M D := bodyD 4 B_Profile_accesses
noncomputable def B_Profile___eq__ : SM :=
  (seqS (ifS (fun ρ => (notT (valT (isiCE tab_Profile (rd ρ 1))))) (retS fun ρ => (kon (.bl false))) nxS)
    (retS fun ρ => (andE (b2 dEq (fldM NMf [0] "own_cold" (rd ρ 0)) (fldM NMf [0] "own_cold" (rd ρ 1))) (b2 dEq (fldM NMf [0] "own_pieces" (rd ρ 0)) (fldM NMf [0] "own_pieces" (rd ρ 1))))))
noncomputable def g_Profile___eq__ : List D → M D := bodyD 2 B_Profile___eq__
noncomputable def B__law_pond : SM :=
  (seqS (setS 2 fun ρ => (kon (.int 0)))
    (seqS (ifS (fun ρ => (b2T dLt (rd ρ 1) (cbE dLen (consM (rd ρ 0) nilA)))) (setS 2 fun ρ => (b2 ixD (rd ρ 0) (rd ρ 1))) nxS)
    (retS fun ρ => (celE (lstE (consM (cbE dMax2 (consM (kon (.int 0)) (consM (b2 dSub (rd ρ 2) (b2 dPow (kon (.int 10)) (kon (.int 18)))) nilA))) (consM (b2 dAdd (b2 dAdd (b2 dMul (b2 dMod (cbE dIntU (consM (rd ρ 2) nilA)) (b2 dAdd (b2 dPow (kon (.int 10)) (kon (.int 38))) (kon (.int 133)))) (kon (.int 61))) (b2 dMul (kon (.int 179424673)) (rd ρ 1))) (kon (.int 19))) (consM (kon (.int 0)) nilA))))))))
noncomputable def g__law_pond : List D → M (List D) := bodyL 3 B__law_pond
noncomputable def B__law_dip : SM :=
  (seqS (ifS (fun ρ => (b2T dGt (b2 ixD (rd ρ 0) (kon (.int 0))) (kon (.int 0)))) (seqS (setS 2 fun ρ => (b2 dMod (cbE dIntU (consM (b2 ixD (rd ρ 0) (kon (.int 0))) nilA)) (rd ρ 1)))
    (seqS (stoS (fun ρ => (b2 dDiv (b2 ixD (rd ρ 0) (kon (.int 0))) (rd ρ 1))) (fun ρ => (rd ρ 0)) fun ρ => (kon (.int 0)))
    (retS fun ρ => (rd ρ 2)))) nxS)
    (seqS (stoS (fun ρ => (b2 dAdd (b2 ixD (rd ρ 0) (kon (.int 2))) (kon (.int 1)))) (fun ρ => (rd ρ 0)) fun ρ => (kon (.int 2)))
    (seqS (setS 3 fun ρ => (b2 dMod (cbE dIntU (consM (b2 dPow (b2 dAdd (b2 ixD (rd ρ 0) (kon (.int 1))) (b2 dMul (kon (.int 86028157)) (b2 ixD (rd ρ 0) (kon (.int 2))))) (kon (.int 3))) nilA)) (b2 dAdd (b2 dPow (kon (.int 10)) (kon (.int 42))) (kon (.int 63)))))
    (seqS (setS 3 fun ρ => (b2 dMod (cbE dIntU (consM (b2 dPow (b2 dAdd (rd ρ 3) (b2 dMul (kon (.int 67867979)) (b2 ixD (rd ρ 0) (kon (.int 2))))) (kon (.int 3))) nilA)) (b2 dAdd (b2 dPow (kon (.int 10)) (kon (.int 44))) (kon (.int 57)))))
    (retS fun ρ => (b2 dMod (cbE dIntU (consM (b2 dDiv (rd ρ 3) (kon (.int 655373))) nilA)) (rd ρ 1)))))))
noncomputable def g__law_dip : List D → M D := bodyD 4 B__law_dip
noncomputable def L1__law_given : SM :=
  (seqS (setS 5 fun ρ => (b2 dAdd (b2 dAdd (rd ρ 3) (kon (.int 1))) (b2 ixD (frzE (lstE (consM (kon (.int 0)) (consM (kon (.int 0)) (consM (callE 2 g__law_dip (consM (rd ρ 0) (consM (rd ρ 1) nilA))) nilA))))) (callE 2 g__law_dip (consM (rd ρ 0) (consM (kon (.int 3)) nilA))))))
    (seqS (setS 3 fun ρ => (b2 dAdd (rd ρ 5) (b2 ixD (frzE (lstE (consM (kon (.int 0)) (consM (callE 2 g__law_dip (consM (rd ρ 0) (consM (kon (.int 3)) nilA))) (consM (callE 2 g__law_dip (consM (rd ρ 0) (consM (rd ρ 1) nilA))) nilA))))) (callE 2 g__law_dip (consM (rd ρ 0) (consM (kon (.int 3)) nilA))))))
    (expS fun ρ => (mthE "list" mAppend (rd ρ 2) (consM (tupE (consM (rd ρ 5) (consM (rd ρ 3) (consM (b2 ixD (frzE (lstE (consM (kon (.int 1)) (consM (kon (.int 2)) (consM (b2 dAdd (kon (.int 1)) (callE 2 g__law_dip (consM (rd ρ 0) (consM (rd ρ 1) nilA)))) nilA))))) (callE 2 g__law_dip (consM (rd ρ 0) (consM (kon (.int 3)) nilA)))) nilA)))) nilA)))))
noncomputable def B__law_given : SM :=
  (seqS (parS 2 3 fun ρ => (consM (celE (lstE nilA)) (consM (kon (.int 0)) nilA)))
    (seqS (forS (fun ρ => (itR1 (consM (callE 2 g__law_dip (consM (rd ρ 0) (consM (kon (.int 7)) nilA))) nilA))) (.nm 4) L1__law_given)
    (retS fun ρ => (rd ρ 2))))
noncomputable def g__law_given : List D → M (List D) := bodyL 6 B__law_given
noncomputable def L1__law_many : SM :=
  (seqS (ifS (fun ρ => (b2T dEq (callE 2 g__law_dip (consM (rd ρ 0) (consM (kon (.int 5)) nilA))) (kon (.int 0)))) (parS 3 4 fun ρ => (consM (b2 dAdd (rd ρ 3) (callE 2 g__law_dip (consM (rd ρ 0) (consM (kon (.int 3)) nilA)))) (consM (b2 dAdd (kon (.int 1)) (callE 2 g__law_dip (consM (rd ρ 0) (consM (kon (.int 3)) nilA)))) nilA))) nxS)
    (seqS (setS 6 fun ρ => (b2 dAdd (rd ρ 3) (kon (.int 1))))
    (seqS (setS 3 fun ρ => (b2 dAdd (rd ρ 6) (callE 2 g__law_dip (consM (rd ρ 0) (consM (kon (.int 3)) nilA)))))
    (expS fun ρ => (mthE "list" mAppend (rd ρ 2) (consM (tupE (consM (rd ρ 6) (consM (rd ρ 3) (consM (rd ρ 4) nilA)))) nilA))))))
noncomputable def B__law_many : SM :=
  (seqS (par3S 2 3 4 fun ρ => (consM (celE (lstE nilA)) (consM (kon (.int 0)) (consM (kon (.int 1)) nilA))))
    (seqS (forS (fun ρ => (itR1 (consM (rd ρ 1) nilA))) (.nm 5) L1__law_many)
    (retS fun ρ => (rd ρ 2))))
noncomputable def g__law_many : List D → M (List D) := bodyL 7 B__law_many
noncomputable def L1__law_joined : SM :=
  (ifS (fun ρ => (andM (b2T dNe (rd ρ 1) (frzE (lstE nilA))) (andM (b2T dEq (b2 ixD (b2 ixD (rd ρ 1) (b1 dNeg (kon (.int 1)))) (kon (.int 1))) (b2 dSub (rd ρ 2) (kon (.int 1)))) (b2T dEq (b2 ixD (b2 ixD (rd ρ 1) (b1 dNeg (kon (.int 1)))) (kon (.int 2))) (rd ρ 4))))) (stoS (fun ρ => (tupE (consM (b2 ixD (b2 ixD (rd ρ 1) (b1 dNeg (kon (.int 1)))) (kon (.int 0))) (consM (rd ρ 3) (consM (rd ρ 4) nilA))))) (fun ρ => (rd ρ 1)) fun ρ => (b1 dNeg (kon (.int 1)))) (expS fun ρ => (mthE "list" mAppend (rd ρ 1) (consM (tupE (consM (rd ρ 2) (consM (rd ρ 3) (consM (rd ρ 4) nilA)))) nilA))))
noncomputable def B__law_joined : SM :=
  (seqS (setS 1 fun ρ => (celE (lstE nilA)))
    (seqS (forS (fun ρ => (itS (rd ρ 0))) (.tp [(.nm 2), (.nm 3), (.nm 4)]) L1__law_joined)
    (retS fun ρ => (rd ρ 1))))
noncomputable def g__law_joined : List D → M (List D) := bodyL 5 B__law_joined
noncomputable def B_Profile_cold : SM :=
  (retS fun ρ => (fldM NMf [0] "own_cold" (rd ρ 0)))
noncomputable def g_Profile_cold : List D → M D := bodyD 1 B_Profile_cold
noncomputable def L1__law_halved : SM :=
  (ifS (fun ρ => (andM (b2T dLt (rd ρ 3) (rd ρ 4)) (b2T dEq (callE 2 g__law_dip (consM (rd ρ 0) (consM (kon (.int 2)) nilA))) (kon (.int 0))))) (seqS (setS 6 fun ρ => (b2 dAdd (rd ρ 3) (callE 2 g__law_dip (consM (rd ρ 0) (consM (b2 dSub (rd ρ 4) (rd ρ 3)) nilA)))))
    (setS 2 fun ρ => (celE (b2L catL (rd ρ 2) (frzE (lstE (consM (tupE (consM (rd ρ 3) (consM (rd ρ 6) (consM (rd ρ 5) nilA)))) (consM (tupE (consM (b2 dAdd (rd ρ 6) (kon (.int 1))) (consM (rd ρ 4) (consM (rd ρ 5) nilA)))) nilA)))))))) (expS fun ρ => (mthE "list" mAppend (rd ρ 2) (consM (tupE (consM (rd ρ 3) (consM (rd ρ 4) (consM (rd ρ 5) nilA)))) nilA))))
noncomputable def B__law_halved : SM :=
  (seqS (setS 2 fun ρ => (celE (lstE nilA)))
    (seqS (forS (fun ρ => (itS (rd ρ 1))) (.tp [(.nm 3), (.nm 4), (.nm 5)]) L1__law_halved)
    (retS fun ρ => (rd ρ 2))))
noncomputable def g__law_halved : List D → M (List D) := bodyL 7 B__law_halved
noncomputable def B__law_near : SM :=
  (seqS (setS 3 fun ρ => (celE (lstE (consM (tupE (consM (b2 dAdd (rd ρ 1) (kon (.int 1))) (consM (rd ρ 2) nilA))) (consM (tupE (consM (rd ρ 1) (consM (slE (rd ρ 2) (smO (kon (.int 1))) noO) nilA))) (consM (tupE (consM (rd ρ 1) (consM (slE (rd ρ 2) noO (smO (b1 dNeg (kon (.int 1))))) nilA))) nilA))))))
    (seqS (setS 4 fun ρ => (ifE (b2T dNe (rd ρ 2) (frzE (lstE nilA))) (b2 ixD (b2 ixD (rd ρ 2) (b1 dNeg (kon (.int 1)))) (kon (.int 1))) (kon (.int 0))))
    (seqS (expS fun ρ => (mthE "list" mAppend (rd ρ 3) (consM (tupE (consM (rd ρ 1) (consM (b2 dAdd (rd ρ 2) (frzE (lstE (consM (tupE (consM (b2 dAdd (rd ρ 4) (kon (.int 1))) (consM (b2 dAdd (rd ρ 4) (kon (.int 1))) (consM (kon (.int 1)) nilA)))) nilA)))) nilA))) nilA)))
    (seqS (ifS (fun ρ => (b2T dNe (rd ρ 2) (frzE (lstE nilA)))) (seqS (setS 5 fun ρ => (callE 2 g__law_dip (consM (rd ρ 0) (consM (cbE dLen (consM (rd ρ 2) nilA)) nilA))))
    (seqS (asgD (fun ρ => (b2 ixD (rd ρ 2) (rd ρ 5))) (.tp [(.nm 6), (.nm 7), (.nm 8)]))
    (seqS (expS fun ρ => (mthE "list" mAppend (rd ρ 3) (consM (tupE (consM (rd ρ 1) (consM (b2 dAdd (b2 dAdd (slE (rd ρ 2) noO (smO (rd ρ 5))) (frzE (lstE (consM (tupE (consM (rd ρ 6) (consM (rd ρ 7) (consM (b2 dAdd (rd ρ 8) (kon (.int 1))) nilA)))) nilA)))) (slE (rd ρ 2) (smO (b2 dAdd (rd ρ 5) (kon (.int 1)))) noO)) nilA))) nilA)))
    (expS fun ρ => (mthE "list" mAppend (rd ρ 3) (consM (tupE (consM (rd ρ 1) (consM (b2 dAdd (slE (rd ρ 2) noO (smO (b1 dNeg (kon (.int 1))))) (frzE (lstE (consM (tupE (consM (b2 ixD (b2 ixD (rd ρ 2) (b1 dNeg (kon (.int 1)))) (kon (.int 0))) (consM (b2 dAdd (rd ρ 4) (kon (.int 1))) (consM (b2 ixD (b2 ixD (rd ρ 2) (b1 dNeg (kon (.int 1)))) (kon (.int 2))) nilA)))) nilA)))) nilA))) nilA)))))) nxS)
    (retS fun ρ => (rd ρ 3))))))
noncomputable def g__law_near : List D → M (List D) := bodyL 9 B__law_near
noncomputable def L1__law_right : SM :=
  (seqS (setS 8 fun ρ => (makeE NMf 0 3 g_Profile___init__ (consM (rd ρ 1) (consM (frzE (callL 2 g__law_halved (consM (rd ρ 0) (consM (rd ρ 5) nilA)))) nilA))))
    (ifS (fun ρ => (orM (notT (b2MT (eqOwn 0 g_Profile___eq__) (rd ρ 3) (rd ρ 8))) (orM (b2MT (neOwn 0 g_Profile___eq__) (rd ρ 3) (rd ρ 8)) (b2T dNe (frzE (mt0L NMf 0 "pieces" 1 g_Profile_pieces (rd ρ 8))) (rd ρ 4))))) (retS fun ρ => (kon (.bl false))) nxS))
noncomputable def L2__law_right : SM :=
  (seqS (setS 11 fun ρ => (andE (b2 dEq (rd ρ 9) (rd ρ 1)) (b2 dEq (frzE (callL 1 g__law_joined (consM (rd ρ 10) nilA))) (rd ρ 4))))
    (ifS (fun ρ => (orM (b2T dNe (b2M (eqOwn 0 g_Profile___eq__) (rd ρ 3) (makeE NMf 0 3 g_Profile___init__ (consM (rd ρ 9) (consM (rd ρ 10) nilA)))) (rd ρ 11)) (b2T dEq (b2M (neOwn 0 g_Profile___eq__) (rd ρ 3) (makeE NMf 0 3 g_Profile___init__ (consM (rd ρ 9) (consM (rd ρ 10) nilA)))) (rd ρ 11)))) (retS fun ρ => (kon (.bl false))) nxS))
noncomputable def B__law_right : SM :=
  (seqS (asgD (fun ρ => (tupE (consM (lend noL 2 (fun ρ => (makeE NMf 0 3 g_Profile___init__ (consM (rd ρ 1) (consM (rd ρ 2) nilA)))) ρ) (consM (frzE (lend noLL 2 (fun ρ => (callL 1 g__law_joined (consM (rd ρ 2) nilA))) ρ)) nilA)))) (.tp [(.nm 3), (.nm 4)]))
    (seqS (setS 5 fun ρ => (frzE (cbL dListOf (consM (rd ρ 2) nilA))))
    (seqS (setS 6 fun ρ => (b2 dAdd (rd ρ 1) (lend noL 2 (fun ρ => (cbE dSum (consM (frzE (lcL (itS (rd ρ 2)) (.tp [(.nm 13), (.nm 14), (.nm 15)]) (fun ρ => yesM) (fun ρ => (b2 dMul (rd ρ 15) (b2 dAdd (b2 dSub (rd ρ 14) (rd ρ 13)) (kon (.int 1))))) ρ [13, 14, 15])) nilA))) ρ)))
    (seqS (ifS (fun ρ => (orM (b2T dNe (cbE reprD (consM (frzE (lstE (consM (mt0E NMf 0 "cold" 1 g_Profile_cold (rd ρ 3)) (consM (frzE (mt0L NMf 0 "pieces" 1 g_Profile_pieces (rd ρ 3))) (consM (mt0E NMf 0 "accesses" 1 g_Profile_accesses (rd ρ 3)) nilA))))) nilA)) (cbE reprD (consM (frzE (lstE (consM (rd ρ 1) (consM (rd ρ 4) (consM (rd ρ 6) nilA))))) nilA))) (b2T dNe (rd ρ 2) (rd ρ 5)))) (retS fun ρ => (kon (.bl false))) nxS)
    (seqS (expS fun ρ => (mthE "list" mAppend (celE (mt0L NMf 0 "pieces" 1 g_Profile_pieces (rd ρ 3))) (consM (tupE (consM (b2 dPow (kon (.int 10)) (kon (.int 40))) (consM (b2 dPow (kon (.int 10)) (kon (.int 40))) (consM (kon (.int 1)) nilA)))) nilA)))
    (seqS (expS fun ρ => (mthE "list" mAppend (rd ρ 2) (consM (tupE (consM (kon (.int 1)) (consM (kon (.int 1)) (consM (kon (.int 1)) nilA)))) nilA)))
    (seqS (ifS (fun ρ => (orM (b2T dNe (frzE (mt0L NMf 0 "pieces" 1 g_Profile_pieces (rd ρ 3))) (rd ρ 4)) (b2T dNe (mt0E NMf 0 "accesses" 1 g_Profile_accesses (rd ρ 3)) (rd ρ 6)))) (retS fun ρ => (kon (.bl false))) nxS)
    (seqS (forS (fun ρ => (itR1 (consM (kon (.int 2)) nilA))) (.nm 7) L1__law_right)
    (seqS (forS (fun ρ => (itS (frzE (callL 3 g__law_near (consM (rd ρ 0) (consM (rd ρ 1) (consM (rd ρ 5) nilA))))))) (.tp [(.nm 9), (.nm 10)]) L2__law_right)
    (retS fun ρ => (b2 dEq (frzE (lcL (itS (tupE (consM (kon .non) (consM (rd ρ 1) (consM (rd ρ 4) (consM (tupE (consM (rd ρ 1) (consM (rd ρ 4) nilA))) (consM (kon (.str "")) (consM (kon (.ext 0 [])) nilA)))))))) (.nm 12) (fun ρ => (b2MT (eqOwn 0 g_Profile___eq__) (rd ρ 3) (rd ρ 12))) (fun ρ => (kon (.int 1))) ρ [12])) (frzE (lstE nilA)))))))))))))
noncomputable def g__law_right : List D → M D := bodyD 16 B__law_right
noncomputable def L1_law : SM :=
  (seqS (setS 4 fun ρ => (b2 ixD (frzE (lstE (consM (kon (.int 4)) (consM (b2 dPow (kon (.int 10)) (kon (.int 30))) nilA)))) (b2 dMod (rd ρ 3) (kon (.int 2)))))
    (ifS (fun ρ => (notT (valT (callE 3 g__law_right (consM (rd ρ 2) (consM (b2 ixD (frzE (lstE (consM (kon (.int 0)) (consM (callE 2 g__law_dip (consM (rd ρ 2) (consM (rd ρ 4) nilA))) nilA)))) (callE 2 g__law_dip (consM (rd ρ 2) (consM (kon (.int 2)) nilA)))) (consM (celE (callL 2 g__law_given (consM (rd ρ 2) (consM (rd ρ 4) nilA)))) nilA))))))) (retS fun ρ => (kon (.bl false))) nxS))
noncomputable def L2_law : SM :=
  (seqS (setS 2 fun ρ => (celE (callL 2 g__law_pond (consM (rd ρ 0) (consM (rd ρ 1) nilA)))))
    (seqS (forS (fun ρ => (itR1 (consM (kon (.int 4)) nilA))) (.nm 3) L1_law)
    (seqS (setS 5 fun ρ => (celE (callL 2 g__law_many (consM (rd ρ 2) (consM (b2 dAdd (kon (.int 60)) (callE 2 g__law_dip (consM (rd ρ 2) (consM (kon (.int 41)) nilA)))) nilA)))))
    (ifS (fun ρ => (andM (b2T dEq (rd ρ 1) (kon (.int 0))) (notT (valT (callE 3 g__law_right (consM (rd ρ 2) (consM (callE 2 g__law_dip (consM (rd ρ 2) (consM (kon (.int 9)) nilA))) (consM (rd ρ 5) nilA)))))))) (retS fun ρ => (kon (.bl false))) nxS))))
noncomputable def B_law : SM :=
  (seqS (forS (fun ρ => (itR1 (consM (cbE dMax2 (consM (kon (.int 1)) (consM (cbE dMin2 (consM (kon (.int 6)) (consM (cbE dLen (consM (rd ρ 0) nilA)) nilA))) nilA))) nilA))) (.nm 1) L2_law)
    (seqS (setS 5 fun ρ => (celE (callL 2 g__law_many (consM (celE (callL 2 g__law_pond (consM (rd ρ 0) (consM (kon (.int 0)) nilA)))) (consM (kon (.int 200)) nilA)))))
    (seqS (parS 6 7 fun ρ => (consM (makeE NMf 0 3 g_Profile___init__ (consM (kon (.int 3)) (consM (M.bind (rd ρ 5) fzM) nilA))) (consM (makeE NMf 0 3 g_Profile___init__ (consM (kon (.int 3)) (consM (frzE (callL 1 g__law_joined (consM (M.bind (rd ρ 5) fzM) nilA))) nilA))) nilA)))
    (seqS (ifS (fun ρ => (orM (b2T dNe (frzE (mt0L NMf 0 "pieces" 1 g_Profile_pieces (rd ρ 6))) (frzE (callL 1 g__law_joined (consM (M.bind (rd ρ 5) fzM) nilA)))) (orM (notT (b2MT (eqOwn 0 g_Profile___eq__) (rd ρ 6) (rd ρ 7))) (b2T dNe (mt0E NMf 0 "accesses" 1 g_Profile_accesses (rd ρ 6)) (mt0E NMf 0 "accesses" 1 g_Profile_accesses (rd ρ 7)))))) (retS fun ρ => (kon (.bl false))) nxS)
    (seqS (setS 6 fun ρ => (makeE NMf 0 3 g_Profile___init__ (consM (kon (.int 4)) (consM (frzE (lstE (consM (tupE (consM (kon (.int 1)) (consM (kon (.int 2)) (consM (kon (.int 9)) nilA)))) (consM (tupE (consM (kon (.int 3)) (consM (kon (.int 4)) (consM (kon (.int 9)) nilA)))) (consM (tupE (consM (kon (.int 7)) (consM (kon (.int 7)) (consM (kon (.int 2)) nilA)))) nilA))))) nilA))))
    (retS fun ρ => (b2 dEq (frzE (lstE (consM (frzE (mt0L NMf 0 "pieces" 1 g_Profile_pieces (rd ρ 6))) (consM (mt0E NMf 0 "accesses" 1 g_Profile_accesses (rd ρ 6)) nilA)))) (frzE (lstE (consM (frzE (lstE (consM (tupE (consM (kon (.int 1)) (consM (kon (.int 4)) (consM (kon (.int 9)) nilA)))) (consM (tupE (consM (kon (.int 7)) (consM (kon (.int 7)) (consM (kon (.int 2)) nilA)))) nilA)))) (consM (kon (.int 42)) nilA)))))))))))
noncomputable def g_law : List D → M D := bodyD 8 B_law
section
variable {P : Program} {w : World} {K : PySem.W.Frag} {mg : Str → Option Value} {base h : Heap}
theorem fr_isinstance (X : K.In h) (G : h.Ns mainGlobals mg) (c : SaysW fa pr op bn xf fn K) : mg "isinstance" = none := He.free_ok X G (c.fact 19 (f := .free "isinstance") rfl)
theorem fr_bool (X : K.In h) (G : h.Ns mainGlobals mg) (c : SaysW fa pr op bn xf fn K) : mg "bool" = none := He.free_ok X G (c.fact 20 (f := .free "bool") rfl)
theorem fr_int (X : K.In h) (G : h.Ns mainGlobals mg) (c : SaysW fa pr op bn xf fn K) : mg "int" = none := He.free_ok X G (c.fact 21 (f := .free "int") rfl)
theorem fr_len (X : K.In h) (G : h.Ns mainGlobals mg) (c : SaysW fa pr op bn xf fn K) : mg "len" = none := He.free_ok X G (c.fact 22 (f := .free "len") rfl)
theorem fr_tuple (X : K.In h) (G : h.Ns mainGlobals mg) (c : SaysW fa pr op bn xf fn K) : mg "tuple" = none := He.free_ok X G (c.fact 23 (f := .free "tuple") rfl)
theorem fr_all (X : K.In h) (G : h.Ns mainGlobals mg) (c : SaysW fa pr op bn xf fn K) : mg "all" = none := He.free_ok X G (c.fact 24 (f := .free "all") rfl)
theorem fr_list (X : K.In h) (G : h.Ns mainGlobals mg) (c : SaysW fa pr op bn xf fn K) : mg "list" = none := He.free_ok X G (c.fact 25 (f := .free "list") rfl)
theorem fr_zip (X : K.In h) (G : h.Ns mainGlobals mg) (c : SaysW fa pr op bn xf fn K) : mg "zip" = none := He.free_ok X G (c.fact 26 (f := .free "zip") rfl)
theorem fr_sorted (X : K.In h) (G : h.Ns mainGlobals mg) (c : SaysW fa pr op bn xf fn K) : mg "sorted" = none := He.free_ok X G (c.fact 27 (f := .free "sorted") rfl)
theorem fr_range (X : K.In h) (G : h.Ns mainGlobals mg) (c : SaysW fa pr op bn xf fn K) : mg "range" = none := He.free_ok X G (c.fact 28 (f := .free "range") rfl)
theorem fr_sum (X : K.In h) (G : h.Ns mainGlobals mg) (c : SaysW fa pr op bn xf fn K) : mg "sum" = none := He.free_ok X G (c.fact 29 (f := .free "sum") rfl)
theorem fr_max (X : K.In h) (G : h.Ns mainGlobals mg) (c : SaysW fa pr op bn xf fn K) : mg "max" = none := He.free_ok X G (c.fact 30 (f := .free "max") rfl)
theorem fr_repr (X : K.In h) (G : h.Ns mainGlobals mg) (c : SaysW fa pr op bn xf fn K) : mg "repr" = none := He.free_ok X G (c.fact 31 (f := .free "repr") rfl)
theorem fr_min (X : K.In h) (G : h.Ns mainGlobals mg) (c : SaysW fa pr op bn xf fn K) : mg "min" = none := He.free_ok X G (c.fact 32 (f := .free "min") rfl)
theorem neF_Profile (c : SaysW fa pr op bn xf fn K) : NeF K ((TT K).C 0) := ne_ok (c.more 0 (p := .ne "Profile") rfl)
theorem fld_own_cold (c : SaysW fa pr op bn xf fn K) : ∀ i ∈ ([0] : List Nat), Cls K ((TT K).C i) ∧ NoAttr K ((TT K).C i) "own_cold" := by
  intro i hi
  simp only [List.mem_cons, List.not_mem_nil, or_false] at hi
  rcases hi with rfl
  · exact ⟨He.cls_ok (c.fact 0 rfl), He.noat_ok (c.fact 1 rfl)⟩
theorem fld_own_pieces (c : SaysW fa pr op bn xf fn K) : ∀ i ∈ ([0] : List Nat), Cls K ((TT K).C i) ∧ NoAttr K ((TT K).C i) "own_pieces" := by
  intro i hi
  simp only [List.mem_cons, List.not_mem_nil, or_false] at hi
  rcases hi with rfl
  · exact ⟨He.cls_ok (c.fact 0 rfl), He.noat_ok (c.fact 2 rfl)⟩
theorem isi1_Profile (c : SaysW fa pr op bn xf fn K) : ∀ n ∈ tyNames, PySem.W.kitOne K (.type n) (.ref (He.ga K "Profile")) = some false := (isi_ok (c.more 1 (p := .isi "Profile" [("Profile", true)]) rfl)).1
theorem isi2_Profile (c : SaysW fa pr op bn xf fn K) : ∀ q ∈ tab_Profile, PySem.W.kitOne K (.ref ((TT K).C q.1)) (.ref (He.ga K "Profile")) = some q.2 := by
  intro q hq
  unfold tab_Profile at hq
  simp only [List.mem_cons, List.not_mem_nil, or_false] at hq
  have h := (isi_ok (c.more 1 (p := .isi "Profile" [("Profile", true)]) rfl)).2
  rcases hq with rfl
  · exact h ("Profile", true) (by simp)
theorem isi3_Profile (c : SaysW fa pr op bn xf fn K) : ∀ q ∈ tab_Profile, InsT K ((TT K).C q.1) := by
  intro q hq
  unfold tab_Profile at hq
  simp only [List.mem_cons, List.not_mem_nil, or_false] at hq
  rcases hq with rfl
  · exact ins_ok (He.cls_ok (c.fact 0 rfl)) (c.more 2 (p := .ins "Profile") rfl)
theorem ok_is_int (X : K.In h) (G : h.Ns mainGlobals mg) (c : SaysW fa pr op bn xf fn K) : FnB P w K mg base 1 "is_int" ["value"] (spD K (TT K) 1 g_is_int) :=
  fnB (c.def_ 0 (d := d_is_int) rfl) (He.glo_ok X G (c.fact 5 (f := .glo "is_int") rfl)) (fun fd F => FunD.bindsN F fun _ _ _ _ _ _ us hl => match us, hl with | [_], _ => rfl) fun fd F =>
    fn_D F sc_is_int fun cdv A outer s H E hr nr =>
    (es_one (es_ret (ev_and (ev_isi tabInt hk_int (by rfl) (fr_isinstance X G c) boot_isinstance (ev_var 0 rfl (.inl rfl)) (by rfl) (fr_int X G c) boot_int) (ev_one (ev_not (ev_isi (tabIs "bool") hk_bool (by rfl) (fr_isinstance X G c) boot_isinstance (ev_var 0 rfl (.inl rfl)) (by rfl) (fr_bool X G c) boot_bool))))))
theorem ok_in_range (X : K.In h) (G : h.Ns mainGlobals mg) (c : SaysW fa pr op bn xf fn K) : FnB P w K mg base 2 "in_range" ["value", "low", "high"] (spD K (TT K) 3 g_in_range) :=
  fnB (c.def_ 1 (d := d_in_range) rfl) (He.glo_ok X G (c.fact 6 (f := .glo "in_range") rfl)) (fun fd F => FunD.bindsN F fun _ _ _ _ _ _ us hl => match us, hl with | [_, _, _], _ => rfl) fun fd F =>
    fn_D F sc_in_range fun cdv A outer s H E hr nr =>
    (es_one (es_ret (ev_and (ev_callB (ok_is_int X G c) hr (by decide) nr (by rfl) (ea_cons (ev_var 0 rfl (.inl rfl)) ea_nil)) (ev_and (ev_cmp op_dLe rfl (ev_var 1 rfl (.inl rfl)) (ev_var 0 rfl (.inl rfl))) (ev_one (ev_or (ev_cmp op_dIs rfl (ev_var 2 rfl (.inl rfl)) ev_non) (ev_one (ev_cmp op_dLe rfl (ev_var 0 rfl (.inl rfl)) (ev_var 2 rfl (.inl rfl))))))))))
theorem ok_is_piece (X : K.In h) (G : h.Ns mainGlobals mg) (c : SaysW fa pr op bn xf fn K) : FnB P w K mg base 3 "is_piece" ["value"] (spD K (TT K) 1 g_is_piece) :=
  fnB (c.def_ 2 (d := d_is_piece) rfl) (He.glo_ok X G (c.fact 7 (f := .glo "is_piece") rfl)) (fun fd F => FunD.bindsN F fun _ _ _ _ _ _ us hl => match us, hl with | [_], _ => rfl) fun fd F =>
    fn_D F sc_is_piece fun cdv A outer s H E hr nr =>
    (es_cons (es_if (evt_of (evw_or (evt_not (ev_val (ev_isi (tabIs "tuple") hk_tuple (by rfl) (fr_isinstance X G c) boot_isinstance (ev_var 0 rfl (.inl rfl)) (by rfl) (fr_tuple X G c) boot_tuple))) (evw_or1 (ev_cmpT (op_dNe hr.units) rfl (ev_cb cb_len (by rfl) (fr_len X G c) boot_len (ea_cons (ev_var 0 rfl (.inl rfl)) ea_nil)) ev_int)))) (es_one (es_ret ev_bl)) es_nil)
    (es_one (es_ret (ev_and (ev_callB (ok_in_range X G c) hr (by decide) nr (by rfl) (ea_cons (ev_ix (ev_var 0 rfl (.inl rfl)) ev_int (fun _ _ => rfl)) (ea_cons ev_int (ea_cons ev_non ea_nil)))) (ev_and (ev_callB (ok_in_range X G c) hr (by decide) nr (by rfl) (ea_cons (ev_ix (ev_var 0 rfl (.inl rfl)) ev_int (fun _ _ => rfl)) (ea_cons (ev_ix (ev_var 0 rfl (.inl rfl)) ev_int (fun _ _ => rfl)) (ea_cons ev_non ea_nil)))) (ev_one (ev_callB (ok_in_range X G c) hr (by decide) nr (by rfl) (ea_cons (ev_ix (ev_var 0 rfl (.inl rfl)) ev_int (fun _ _ => rfl)) (ea_cons ev_int (ea_cons ev_non ea_nil))))))))))
theorem ok_are_pieces (X : K.In h) (G : h.Ns mainGlobals mg) (c : SaysW fa pr op bn xf fn K) : FnB P w K mg base 4 "are_pieces" ["value"] (spD K (TT K) 1 g_are_pieces) :=
  fnB (c.def_ 3 (d := d_are_pieces) rfl) (He.glo_ok X G (c.fact 8 (f := .glo "are_pieces") rfl)) (fun fd F => FunD.bindsN F fun _ _ _ _ _ _ us hl => match us, hl with | [_], _ => rfl) fun fd F =>
    fn_D F sc_are_pieces fun cdv A outer s H E hr nr =>
    (es_cons (es_if (evt_of (evw_or (evt_not (ev_val (ev_isi (tabIs "list") hk_list (by rfl) (fr_isinstance X G c) boot_isinstance (ev_var 0 rfl (.inl rfl)) (by rfl) (fr_list X G c) boot_list))) (evw_or1 (evt_not (ev_val (ev_cb (cb_all rfl) (by rfl) (fr_all X G c) boot_all (ea_cons (ev_frz (evL_lc (own := [("piece", 3)]) rfl sc_are_pieces.nd (ei_seq (ev_var 0 rfl (.inl rfl))) (blkOk_by (N := N_are_pieces) (sc := (defScope s_are_pieces)) (own := [("piece", 3)]) (by decide +kernel)) (fun _ _ _ _ _ => (eg_name 3 sc_are_pieces.nd rfl (.inl rfl))) (fun _ _ _ _ _ => ets_nil) (fun _ _ _ _ _ => (ev_callB (ok_is_piece X G c) hr (by decide) nr (by rfl) (ea_cons (ev_var 3 rfl (.inl rfl)) ea_nil))))) ea_nil))))))) (es_one (es_ret ev_bl)) es_nil)
    (es_one (es_ret (ev_cb (cb_all rfl) (by rfl) (fr_all X G c) boot_all (ea_cons (ev_frz (evL_lc (own := [("one", 1), ("other", 2)]) rfl sc_are_pieces.nd (ei_zip (by rfl) (fr_zip X G c) (ea_cons (ev_var 0 rfl (.inl rfl)) (ea_cons (ev_slice (ev_var 0 rfl (.inl rfl)) (eo_some ev_int) eo_none) ea_nil))) (blkOk_by (N := N_are_pieces) (sc := (defScope s_are_pieces)) (own := [("one", 1), ("other", 2)]) (by decide +kernel)) (fun _ _ _ _ _ => (eg_tup rfl (egs_cons (eg_name 1 sc_are_pieces.nd rfl (.inl rfl)) (egs_cons (eg_name 2 sc_are_pieces.nd rfl (.inl rfl)) egs_nil)))) (fun _ _ _ _ _ => ets_nil) (fun _ _ _ _ _ => (ev_cmp op_dLt rfl (ev_ix (ev_var 1 rfl (.inl rfl)) ev_int (fun _ _ => rfl)) (ev_ix (ev_var 2 rfl (.inl rfl)) ev_int (fun _ _ => rfl)))))) ea_nil)))))
theorem ok_joined_pieces (X : K.In h) (G : h.Ns mainGlobals mg) (c : SaysW fa pr op bn xf fn K) : FnB P w K mg base 1 "joined_pieces" ["pieces"] (spD K (TT K) 1 g_joined_pieces) :=
  fnB (c.def_ 4 (d := d_joined_pieces) rfl) (He.glo_ok X G (c.fact 9 (f := .glo "joined_pieces") rfl)) (fun fd F => FunD.bindsN F fun _ _ _ _ _ _ us hl => match us, hl with | [_], _ => rfl) fun fd F =>
    fn_D F sc_joined_pieces fun cdv A outer s H E hr nr =>
    (es_cons (es_set (i := 1) sc_joined_pieces.nd rfl (.inl rfl) (ev_bin op_dAdd (ev_frz (evL_lc (own := [("low", 14), ("high", 15), ("times", 16)]) rfl sc_joined_pieces.nd (ei_seq (ev_var 0 rfl (.inl rfl))) (blkOk_by (N := N_joined_pieces) (sc := (defScope s_joined_pieces)) (own := [("low", 14), ("high", 15), ("times", 16)]) (by decide +kernel)) (fun _ _ _ _ _ => (eg_tup rfl (egs_cons (eg_name 14 sc_joined_pieces.nd rfl (.inl rfl)) (egs_cons (eg_name 15 sc_joined_pieces.nd rfl (.inl rfl)) (egs_cons (eg_name 16 sc_joined_pieces.nd rfl (.inl rfl)) egs_nil))))) (fun _ _ _ _ _ => ets_nil) (fun _ _ _ _ _ => (ev_tup (ea_cons (ev_var 14 rfl (.inl rfl)) (ea_cons (ev_var 16 rfl (.inl rfl)) ea_nil)))))) (ev_frz (evL_lc (own := [("low", 14), ("high", 15), ("times", 16)]) rfl sc_joined_pieces.nd (ei_seq (ev_var 0 rfl (.inl rfl))) (blkOk_by (N := N_joined_pieces) (sc := (defScope s_joined_pieces)) (own := [("low", 14), ("high", 15), ("times", 16)]) (by decide +kernel)) (fun _ _ _ _ _ => (eg_tup rfl (egs_cons (eg_name 14 sc_joined_pieces.nd rfl (.inl rfl)) (egs_cons (eg_name 15 sc_joined_pieces.nd rfl (.inl rfl)) (egs_cons (eg_name 16 sc_joined_pieces.nd rfl (.inl rfl)) egs_nil))))) (fun _ _ _ _ _ => ets_nil) (fun _ _ _ _ _ => (ev_tup (ea_cons (ev_bin op_dAdd (ev_var 15 rfl (.inl rfl)) ev_int) (ea_cons (ev_bin op_dSub ev_int (ev_var 16 rfl (.inl rfl))) ea_nil))))))))
    (es_cons (es_set (i := 1) sc_joined_pieces.nd rfl (.inl rfl) (ev_frz (evL_cb cb_sorted (by rfl) (fr_sorted X G c) boot_sorted (ea_cons (ev_var 1 rfl (.inl rfl)) ea_nil))))
    (es_cons (es_set (i := 2) sc_joined_pieces.nd rfl (.inr rfl) (ev_cell (evL_lst ea_nil)))
    (es_cons (es_asg (ev_tup (ea_cons ev_int (ea_cons ev_int ea_nil))) (eg_tup rfl (egs_cons (eg_name 3 sc_joined_pieces.nd rfl (.inl rfl)) (egs_cons (eg_name 4 sc_joined_pieces.nd rfl (.inl rfl)) egs_nil))))
    (es_cons (es_for PassesOwn.never rfl (ei_seq (ev_var 1 rfl (.inl rfl))) (eg_tup rfl (egs_cons (eg_name 5 sc_joined_pieces.nd rfl (.inl rfl)) (egs_cons (eg_name 6 sc_joined_pieces.nd rfl (.inl rfl)) egs_nil))) (es_cons (es_if (ev_cmpT op_dGt rfl (ev_var 5 rfl (.inl rfl)) (ev_var 4 rfl (.inl rfl))) (es_cons (es_expr (ev_meth PySem.F.plainAttrs_list PySem.F.slot_list_append PySem.F.type_list_append mt_mAppend (ev_var 2 rfl (.inr (.inl rfl))) (ea_cons (ev_tup (ea_cons (ev_var 4 rfl (.inl rfl)) (ea_cons (ev_bin op_dSub (ev_var 5 rfl (.inl rfl)) ev_int) (ea_cons (ev_var 3 rfl (.inl rfl)) ea_nil)))) ea_nil)))
    (es_one (es_set (i := 4) sc_joined_pieces.nd rfl (.inl rfl) (ev_var 5 rfl (.inl rfl))))) es_nil)
    (es_one (es_set (i := 3) sc_joined_pieces.nd rfl (.inl rfl) (ev_bin op_dAdd (ev_var 3 rfl (.inl rfl)) (ev_var 6 rfl (.inl rfl)))))))
    (es_cons (es_setLc (i := 7) (own := [("spot", 10)]) rfl sc_joined_pieces.nd rfl rfl (sw_true rfl rfl rfl (by decide +kernel)) (ei_range1 (by rfl) (fr_range X G c) (ea_cons (ev_cb cb_len (by rfl) (fr_len X G c) boot_len (ea_cons (ev_var 2 rfl (.inr (.inl rfl))) ea_nil)) ea_nil)) (blkOk_by (N := N_joined_pieces) (sc := (defScope s_joined_pieces)) (own := [("spot", 10)]) (by decide +kernel)) (fun _ _ _ _ _ => (eg_name 10 sc_joined_pieces.nd rfl (.inl rfl))) (fun _ _ _ _ _ => (ets_one (evt_of (evw_or (ev_cmpT (op_dEq hr.units) rfl (ev_var 10 rfl (.inl rfl)) ev_int) (evw_or1 (ev_cmpT (op_dNe hr.units) rfl (ev_ix (ev_ix (ev_var 2 rfl (.inr (.inl rfl))) (ev_var 10 rfl (.inl rfl)) (fun _ _ => rfl)) ev_int (fun _ _ => rfl)) (ev_ix (ev_ix (ev_var 2 rfl (.inr (.inl rfl))) (ev_bin op_dSub (ev_var 10 rfl (.inl rfl)) ev_int) (fun _ _ => rfl)) ev_int (fun _ _ => rfl)))))))) (fun _ _ _ _ _ => (ev_var 10 rfl (.inl rfl))))
    (es_cons (es_set (i := 8) sc_joined_pieces.nd rfl (.inl rfl) (ev_bin op_dAdd (ev_slice (ev_var 7 rfl (.inl rfl)) (eo_some ev_int) eo_none) (ev_frz (evL_lst (ea_cons (ev_cb cb_len (by rfl) (fr_len X G c) boot_len (ea_cons (ev_var 2 rfl (.inr (.inl rfl))) ea_nil)) ea_nil)))))
    (es_cons (es_setLc (i := 9) (own := [("start", 11), ("end", 12)]) rfl sc_joined_pieces.nd rfl rfl (sw_true rfl rfl rfl (by decide +kernel)) (ei_zip (by rfl) (fr_zip X G c) (ea_cons (ev_var 7 rfl (.inl rfl)) (ea_cons (ev_var 8 rfl (.inl rfl)) ea_nil))) (blkOk_by (N := N_joined_pieces) (sc := (defScope s_joined_pieces)) (own := [("start", 11), ("end", 12)]) (by decide +kernel)) (fun _ _ _ _ _ => (eg_tup rfl (egs_cons (eg_name 11 sc_joined_pieces.nd rfl (.inl rfl)) (egs_cons (eg_name 12 sc_joined_pieces.nd rfl (.inl rfl)) egs_nil)))) (fun _ _ _ _ _ => ets_nil) (fun _ _ _ _ _ => (ev_tup (ea_cons (ev_ix (ev_ix (ev_var 2 rfl (.inr (.inl rfl))) (ev_var 11 rfl (.inl rfl)) (fun _ _ => rfl)) ev_int (fun _ _ => rfl)) (ea_cons (ev_ix (ev_ix (ev_var 2 rfl (.inr (.inl rfl))) (ev_bin op_dSub (ev_var 12 rfl (.inl rfl)) ev_int) (fun _ _ => rfl)) ev_int (fun _ _ => rfl)) (ea_cons (ev_ix (ev_ix (ev_var 2 rfl (.inr (.inl rfl))) (ev_var 11 rfl (.inl rfl)) (fun _ _ => rfl)) ev_int (fun _ _ => rfl)) ea_nil))))))
    (es_one (es_ret (ev_frz (evL_lc (own := [("piece", 13)]) rfl sc_joined_pieces.nd (ei_seq (ev_var 9 rfl (.inl rfl))) (blkOk_by (N := N_joined_pieces) (sc := (defScope s_joined_pieces)) (own := [("piece", 13)]) (by decide +kernel)) (fun _ _ _ _ _ => (eg_name 13 sc_joined_pieces.nd rfl (.inl rfl))) (fun _ _ _ _ _ => (ets_one (ev_cmpT op_dGt rfl (ev_ix (ev_var 13 rfl (.inl rfl)) ev_int (fun _ _ => rfl)) ev_int))) (fun _ _ _ _ _ => (ev_var 13 rfl (.inl rfl)))))))))))))))
theorem ok_Profile___init__ (X : K.In h) (G : h.Ns mainGlobals mg) (c : SaysW fa pr op bn xf fn K) : FnA P w K mg base 5 (He.ma K (He.ga K "Profile") "__init__") ["self", "cold", "pieces"] (spD K (TT K) 3 g_Profile___init__) :=
  fnA (c.def_ 5 (d := d_Profile___init__) rfl) (fun fd F => FunD.bindsN F fun _ _ _ _ _ _ us hl => match us, hl with | [_, _, _], _ => rfl) fun fd F =>
    fn_D F sc_Profile___init__ fun cdv A outer s H E hr nr =>
    (es_cons (es_if (evt_of (evw_or (evt_not (ev_val (ev_callB (ok_in_range X G c) hr (by decide) nr (by rfl) (ea_cons (ev_var 1 rfl (.inl rfl)) (ea_cons ev_int (ea_cons ev_non ea_nil)))))) (evw_or1 (evt_not (ev_val (ev_callB (ok_are_pieces X G c) hr (by decide) nr (by rfl) (ea_cons (ev_var 2 rfl (.inl rfl)) ea_nil))))))) (es_one es_never) es_nil)
    (es_cons (es_fld [0] (fld_own_cold c) (ev_var 1 rfl (.inl rfl)) (ev_var 0 rfl (.inl rfl)))
    (es_one (es_fld [0] (fld_own_pieces c) (ev_ct ct_tuple (by rfl) (fr_tuple X G c) boot_tuple (ea_cons (ev_callB (ok_joined_pieces X G c) hr (by decide) nr (by rfl) (ea_cons (ev_var 2 rfl (.inl rfl)) ea_nil)) ea_nil)) (ev_var 0 rfl (.inl rfl))))))
theorem ok_Profile_pieces (X : K.In h) (G : h.Ns mainGlobals mg) (c : SaysW fa pr op bn xf fn K) : FnA P w K mg base 1 (prG K ⟨"Profile", "pieces"⟩) ["self"] (spL K (TT K) 1 g_Profile_pieces) :=
  fnA (c.def_ 6 (d := d_Profile_pieces) rfl) (fun fd F => FunD.bindsN F fun _ _ _ _ _ _ us hl => match us, hl with | [_], _ => rfl) fun fd F =>
    fn_L F sc_Profile_pieces fun cdv A outer s H E hr nr =>
    (es_one (es_ret (ev_cell (evL_ct ct_list (by rfl) (fr_list X G c) boot_list (ea_cons (ev_fld NMf [0] rfl (fld_own_pieces c) (ev_var 0 rfl (.inl rfl))) ea_nil)))))
theorem ok_Profile_accesses (X : K.In h) (G : h.Ns mainGlobals mg) (c : SaysW fa pr op bn xf fn K) : FnA P w K mg base 1 (prG K ⟨"Profile", "accesses"⟩) ["self"] (spD K (TT K) 1 g_Profile_accesses) :=
  fnA (c.def_ 7 (d := d_Profile_accesses) rfl) (fun fd F => FunD.bindsN F fun _ _ _ _ _ _ us hl => match us, hl with | [_], _ => rfl) fun fd F =>
    fn_D F sc_Profile_accesses fun cdv A outer s H E hr nr =>
    (es_one (es_ret (ev_bin op_dAdd (ev_fld NMf [0] rfl (fld_own_cold c) (ev_var 0 rfl (.inl rfl))) (ev_cb (cb_sum rfl) (by rfl) (fr_sum X G c) boot_sum (ea_cons (ev_frz (evL_lc (own := [("low", 1), ("high", 2), ("times", 3)]) rfl sc_Profile_accesses.nd (ei_seq (ev_fld NMf [0] rfl (fld_own_pieces c) (ev_var 0 rfl (.inl rfl)))) (blkOk_by (N := N_Profile_accesses) (sc := (defScope s_Profile_accesses)) (own := [("low", 1), ("high", 2), ("times", 3)]) (by decide +kernel)) (fun _ _ _ _ _ => (eg_tup rfl (egs_cons (eg_name 1 sc_Profile_accesses.nd rfl (.inl rfl)) (egs_cons (eg_name 2 sc_Profile_accesses.nd rfl (.inl rfl)) (egs_cons (eg_name 3 sc_Profile_accesses.nd rfl (.inl rfl)) egs_nil))))) (fun _ _ _ _ _ => ets_nil) (fun _ _ _ _ _ => (ev_bin op_dMul (ev_var 3 rfl (.inl rfl)) (ev_bin op_dAdd (ev_bin op_dSub (ev_var 2 rfl (.inl rfl)) (ev_var 1 rfl (.inl rfl))) ev_int))))) ea_nil)))))
theorem ok_Profile___eq__ (X : K.In h) (G : h.Ns mainGlobals mg) (c : SaysW fa pr op bn xf fn K) : FnA P w K mg base 6 (He.ma K (He.ga K "Profile") "__eq__") ["self", "other"] (spD K (TT K) 2 g_Profile___eq__) :=
  fnA (c.def_ 8 (d := d_Profile___eq__) rfl) (fun fd F => FunD.bindsN F fun _ _ _ _ _ _ us hl => match us, hl with | [_, _], _ => rfl) fun fd F =>
    fn_D F sc_Profile___eq__ fun cdv A outer s H E hr nr =>
    (es_cons (es_if (evt_not (ev_val (ev_isiC (tab_Profile) (isi1_Profile c) (isi2_Profile c) (isi3_Profile c) (by rfl) (fr_isinstance X G c) boot_isinstance (ev_var 1 rfl (.inl rfl)) (by rfl) (He.glo_ok X G (c.fact 3 rfl))))) (es_one (es_ret ev_bl)) es_nil)
    (es_one (es_ret (ev_and (ev_cmp (op_dEq hr.units) rfl (ev_fld NMf [0] rfl (fld_own_cold c) (ev_var 0 rfl (.inl rfl))) (ev_fld NMf [0] rfl (fld_own_cold c) (ev_var 1 rfl (.inl rfl)))) (ev_one (ev_cmp (op_dEq hr.units) rfl (ev_fld NMf [0] rfl (fld_own_pieces c) (ev_var 0 rfl (.inl rfl))) (ev_fld NMf [0] rfl (fld_own_pieces c) (ev_var 1 rfl (.inl rfl)))))))))
theorem ok__law_pond (X : K.In h) (G : h.Ns mainGlobals mg) (c : SaysW fa pr op bn xf fn K) : FnB P w K mg base 1 "_law_pond" ["script", "k"] (spL K (TT K) 2 g__law_pond) :=
  fnB (c.def_ 9 (d := d__law_pond) rfl) (He.glo_ok X G (c.fact 10 (f := .glo "_law_pond") rfl)) (fun fd F => FunD.bindsN F fun _ _ _ _ _ _ us hl => match us, hl with | [_, _], _ => rfl) fun fd F =>
    fn_L F sc__law_pond fun cdv A outer s H E hr nr =>
    (es_cons (es_set (i := 2) sc__law_pond.nd rfl (.inl rfl) ev_int)
    (es_cons (es_if (ev_cmpT op_dLt rfl (ev_var 1 rfl (.inl rfl)) (ev_cb cb_len (by rfl) (fr_len X G c) boot_len (ea_cons (ev_var 0 rfl (.inl rfl)) ea_nil))) (es_one (es_set (i := 2) sc__law_pond.nd rfl (.inl rfl) (ev_ix (ev_var 0 rfl (.inl rfl)) (ev_var 1 rfl (.inl rfl)) (fun _ _ => rfl)))) es_nil)
    (es_one (es_ret (ev_cell (evL_lst (ea_cons (ev_cb (cb_max2 rfl) (by rfl) (fr_max X G c) boot_max (ea_cons ev_int (ea_cons (ev_bin op_dSub (ev_var 2 rfl (.inl rfl)) (ev_bin op_dPow ev_int ev_int)) ea_nil))) (ea_cons (ev_bin op_dAdd (ev_bin op_dAdd (ev_bin op_dMul (ev_bin op_dMod (ev_ct ct_intU (by rfl) (fr_int X G c) boot_int (ea_cons (ev_var 2 rfl (.inl rfl)) ea_nil)) (ev_bin op_dAdd (ev_bin op_dPow ev_int ev_int) ev_int)) ev_int) (ev_bin op_dMul ev_int (ev_var 1 rfl (.inl rfl)))) ev_int) (ea_cons ev_int ea_nil)))))))))
theorem ok__law_dip (X : K.In h) (G : h.Ns mainGlobals mg) (c : SaysW fa pr op bn xf fn K) : FnB P w K mg base 1 "_law_dip" ["pond", "many"] (spD K (TT K) 2 g__law_dip) :=
  fnB (c.def_ 10 (d := d__law_dip) rfl) (He.glo_ok X G (c.fact 11 (f := .glo "_law_dip") rfl)) (fun fd F => FunD.bindsN F fun _ _ _ _ _ _ us hl => match us, hl with | [_, _], _ => rfl) fun fd F =>
    fn_D F sc__law_dip fun cdv A outer s H E hr nr =>
    (es_cons (es_if (ev_cmpT op_dGt rfl (ev_ix (ev_var 0 rfl (.inl rfl)) ev_int (fun _ _ => rfl)) ev_int) (es_cons (es_set (i := 2) sc__law_dip.nd rfl (.inl rfl) (ev_bin op_dMod (ev_ct ct_intU (by rfl) (fr_int X G c) boot_int (ea_cons (ev_ix (ev_var 0 rfl (.inl rfl)) ev_int (fun _ _ => rfl)) ea_nil)) (ev_var 1 rfl (.inl rfl))))
    (es_cons (es_store (ev_bin op_dDiv (ev_ix (ev_var 0 rfl (.inl rfl)) ev_int (fun _ _ => rfl)) (ev_var 1 rfl (.inl rfl))) (ev_var 0 rfl (.inl rfl)) ev_int)
    (es_one (es_ret (ev_var 2 rfl (.inl rfl)))))) es_nil)
    (es_cons (es_store (ev_bin op_dAdd (ev_ix (ev_var 0 rfl (.inl rfl)) ev_int (fun _ _ => rfl)) ev_int) (ev_var 0 rfl (.inl rfl)) ev_int)
    (es_cons (es_set (i := 3) sc__law_dip.nd rfl (.inl rfl) (ev_bin op_dMod (ev_ct ct_intU (by rfl) (fr_int X G c) boot_int (ea_cons (ev_bin op_dPow (ev_bin op_dAdd (ev_ix (ev_var 0 rfl (.inl rfl)) ev_int (fun _ _ => rfl)) (ev_bin op_dMul ev_int (ev_ix (ev_var 0 rfl (.inl rfl)) ev_int (fun _ _ => rfl)))) ev_int) ea_nil)) (ev_bin op_dAdd (ev_bin op_dPow ev_int ev_int) ev_int)))
    (es_cons (es_set (i := 3) sc__law_dip.nd rfl (.inl rfl) (ev_bin op_dMod (ev_ct ct_intU (by rfl) (fr_int X G c) boot_int (ea_cons (ev_bin op_dPow (ev_bin op_dAdd (ev_var 3 rfl (.inl rfl)) (ev_bin op_dMul ev_int (ev_ix (ev_var 0 rfl (.inl rfl)) ev_int (fun _ _ => rfl)))) ev_int) ea_nil)) (ev_bin op_dAdd (ev_bin op_dPow ev_int ev_int) ev_int)))
    (es_one (es_ret (ev_bin op_dMod (ev_ct ct_intU (by rfl) (fr_int X G c) boot_int (ea_cons (ev_bin op_dDiv (ev_var 3 rfl (.inl rfl)) ev_int) ea_nil)) (ev_var 1 rfl (.inl rfl)))))))))
theorem ok__law_given (X : K.In h) (G : h.Ns mainGlobals mg) (c : SaysW fa pr op bn xf fn K) : FnB P w K mg base 2 "_law_given" ["pond", "wide"] (spL K (TT K) 2 g__law_given) :=
  fnB (c.def_ 11 (d := d__law_given) rfl) (He.glo_ok X G (c.fact 12 (f := .glo "_law_given") rfl)) (fun fd F => FunD.bindsN F fun _ _ _ _ _ _ us hl => match us, hl with | [_, _], _ => rfl) fun fd F =>
    fn_L F sc__law_given fun cdv A outer s H E hr nr =>
    (es_cons (es_par (i := 2) (j := 3) rfl sc__law_given.nd rfl rfl (by decide) rfl rfl (ea_cons (ev_cell (evL_lst ea_nil)) (ea_cons ev_int ea_nil)) rfl)
    (es_cons (es_for PassesOwn.never rfl (ei_range1 (by rfl) (fr_range X G c) (ea_cons (ev_callB (ok__law_dip X G c) hr (by decide) nr (by rfl) (ea_cons (ev_var 0 rfl (.inl rfl)) (ea_cons ev_int ea_nil))) ea_nil)) (eg_name 4 sc__law_given.nd rfl (.inl rfl)) (es_cons (es_set (i := 5) sc__law_given.nd rfl (.inl rfl) (ev_bin op_dAdd (ev_bin op_dAdd (ev_var 3 rfl (.inl rfl)) ev_int) (ev_ix (ev_frz (evL_lst (ea_cons ev_int (ea_cons ev_int (ea_cons (ev_callB (ok__law_dip X G c) hr (by decide) nr (by rfl) (ea_cons (ev_var 0 rfl (.inl rfl)) (ea_cons (ev_var 1 rfl (.inl rfl)) ea_nil))) ea_nil))))) (ev_callB (ok__law_dip X G c) hr (by decide) nr (by rfl) (ea_cons (ev_var 0 rfl (.inl rfl)) (ea_cons ev_int ea_nil))) (fun _ _ => rfl))))
    (es_cons (es_set (i := 3) sc__law_given.nd rfl (.inl rfl) (ev_bin op_dAdd (ev_var 5 rfl (.inl rfl)) (ev_ix (ev_frz (evL_lst (ea_cons ev_int (ea_cons (ev_callB (ok__law_dip X G c) hr (by decide) nr (by rfl) (ea_cons (ev_var 0 rfl (.inl rfl)) (ea_cons ev_int ea_nil))) (ea_cons (ev_callB (ok__law_dip X G c) hr (by decide) nr (by rfl) (ea_cons (ev_var 0 rfl (.inl rfl)) (ea_cons (ev_var 1 rfl (.inl rfl)) ea_nil))) ea_nil))))) (ev_callB (ok__law_dip X G c) hr (by decide) nr (by rfl) (ea_cons (ev_var 0 rfl (.inl rfl)) (ea_cons ev_int ea_nil))) (fun _ _ => rfl))))
    (es_one (es_expr (ev_meth PySem.F.plainAttrs_list PySem.F.slot_list_append PySem.F.type_list_append mt_mAppend (ev_var 2 rfl (.inl rfl)) (ea_cons (ev_tup (ea_cons (ev_var 5 rfl (.inl rfl)) (ea_cons (ev_var 3 rfl (.inl rfl)) (ea_cons (ev_ix (ev_frz (evL_lst (ea_cons ev_int (ea_cons ev_int (ea_cons (ev_bin op_dAdd ev_int (ev_callB (ok__law_dip X G c) hr (by decide) nr (by rfl) (ea_cons (ev_var 0 rfl (.inl rfl)) (ea_cons (ev_var 1 rfl (.inl rfl)) ea_nil)))) ea_nil))))) (ev_callB (ok__law_dip X G c) hr (by decide) nr (by rfl) (ea_cons (ev_var 0 rfl (.inl rfl)) (ea_cons ev_int ea_nil))) (fun _ _ => rfl)) ea_nil)))) ea_nil)))))))
    (es_one (es_ret (ev_var 2 rfl (.inl rfl))))))
theorem ok__law_many (X : K.In h) (G : h.Ns mainGlobals mg) (c : SaysW fa pr op bn xf fn K) : FnB P w K mg base 2 "_law_many" ["pond", "many"] (spL K (TT K) 2 g__law_many) :=
  fnB (c.def_ 12 (d := d__law_many) rfl) (He.glo_ok X G (c.fact 13 (f := .glo "_law_many") rfl)) (fun fd F => FunD.bindsN F fun _ _ _ _ _ _ us hl => match us, hl with | [_, _], _ => rfl) fun fd F =>
    fn_L F sc__law_many fun cdv A outer s H E hr nr =>
    (es_cons (es_par3 (i := 2) (j := 3) (l := 4) rfl sc__law_many.nd rfl rfl rfl (by decide) (by decide) (by decide) rfl rfl rfl (ea_cons (ev_cell (evL_lst ea_nil)) (ea_cons ev_int (ea_cons ev_int ea_nil))) rfl)
    (es_cons (es_for PassesOwn.never rfl (ei_range1 (by rfl) (fr_range X G c) (ea_cons (ev_var 1 rfl (.inl rfl)) ea_nil)) (eg_name 5 sc__law_many.nd rfl (.inl rfl)) (es_cons (es_if (ev_cmpT (op_dEq hr.units) rfl (ev_callB (ok__law_dip X G c) hr (by decide) nr (by rfl) (ea_cons (ev_var 0 rfl (.inl rfl)) (ea_cons ev_int ea_nil))) ev_int) (es_one (es_par (i := 3) (j := 4) rfl sc__law_many.nd rfl rfl (by decide) rfl rfl (ea_cons (ev_bin op_dAdd (ev_var 3 rfl (.inl rfl)) (ev_callB (ok__law_dip X G c) hr (by decide) nr (by rfl) (ea_cons (ev_var 0 rfl (.inl rfl)) (ea_cons ev_int ea_nil)))) (ea_cons (ev_bin op_dAdd ev_int (ev_callB (ok__law_dip X G c) hr (by decide) nr (by rfl) (ea_cons (ev_var 0 rfl (.inl rfl)) (ea_cons ev_int ea_nil)))) ea_nil)) rfl)) es_nil)
    (es_cons (es_set (i := 6) sc__law_many.nd rfl (.inl rfl) (ev_bin op_dAdd (ev_var 3 rfl (.inl rfl)) ev_int))
    (es_cons (es_set (i := 3) sc__law_many.nd rfl (.inl rfl) (ev_bin op_dAdd (ev_var 6 rfl (.inl rfl)) (ev_callB (ok__law_dip X G c) hr (by decide) nr (by rfl) (ea_cons (ev_var 0 rfl (.inl rfl)) (ea_cons ev_int ea_nil)))))
    (es_one (es_expr (ev_meth PySem.F.plainAttrs_list PySem.F.slot_list_append PySem.F.type_list_append mt_mAppend (ev_var 2 rfl (.inl rfl)) (ea_cons (ev_tup (ea_cons (ev_var 6 rfl (.inl rfl)) (ea_cons (ev_var 3 rfl (.inl rfl)) (ea_cons (ev_var 4 rfl (.inl rfl)) ea_nil)))) ea_nil))))))))
    (es_one (es_ret (ev_var 2 rfl (.inl rfl))))))
theorem ok__law_joined (X : K.In h) (G : h.Ns mainGlobals mg) (c : SaysW fa pr op bn xf fn K) : FnB P w K mg base 1 "_law_joined" ["given"] (spL K (TT K) 1 g__law_joined) :=
  fnB (c.def_ 13 (d := d__law_joined) rfl) (He.glo_ok X G (c.fact 14 (f := .glo "_law_joined") rfl)) (fun fd F => FunD.bindsN F fun _ _ _ _ _ _ us hl => match us, hl with | [_], _ => rfl) fun fd F =>
    fn_L F sc__law_joined fun cdv A outer s H E hr nr =>
    (es_cons (es_set (i := 1) sc__law_joined.nd rfl (.inl rfl) (ev_cell (evL_lst ea_nil)))
    (es_cons (es_for PassesOwn.never rfl (ei_seq (ev_var 0 rfl (.inl rfl))) (eg_tup rfl (egs_cons (eg_name 2 sc__law_joined.nd rfl (.inl rfl)) (egs_cons (eg_name 3 sc__law_joined.nd rfl (.inl rfl)) (egs_cons (eg_name 4 sc__law_joined.nd rfl (.inl rfl)) egs_nil)))) (es_one (es_if (evt_of (evw_and (ev_cmpT (op_dNe hr.units) rfl (ev_var 1 rfl (.inl rfl)) (ev_frz (evL_lst ea_nil))) (evw_and (ev_cmpT (op_dEq hr.units) rfl (ev_ix (ev_ix (ev_var 1 rfl (.inl rfl)) (ev_un un_dNeg ev_int) (fun _ _ => rfl)) ev_int (fun _ _ => rfl)) (ev_bin op_dSub (ev_var 2 rfl (.inl rfl)) ev_int)) (evw_and1 (ev_cmpT (op_dEq hr.units) rfl (ev_ix (ev_ix (ev_var 1 rfl (.inl rfl)) (ev_un un_dNeg ev_int) (fun _ _ => rfl)) ev_int (fun _ _ => rfl)) (ev_var 4 rfl (.inl rfl))))))) (es_one (es_store (ev_tup (ea_cons (ev_ix (ev_ix (ev_var 1 rfl (.inl rfl)) (ev_un un_dNeg ev_int) (fun _ _ => rfl)) ev_int (fun _ _ => rfl)) (ea_cons (ev_var 3 rfl (.inl rfl)) (ea_cons (ev_var 4 rfl (.inl rfl)) ea_nil)))) (ev_var 1 rfl (.inl rfl)) (ev_un un_dNeg ev_int))) (es_one (es_expr (ev_meth PySem.F.plainAttrs_list PySem.F.slot_list_append PySem.F.type_list_append mt_mAppend (ev_var 1 rfl (.inl rfl)) (ea_cons (ev_tup (ea_cons (ev_var 2 rfl (.inl rfl)) (ea_cons (ev_var 3 rfl (.inl rfl)) (ea_cons (ev_var 4 rfl (.inl rfl)) ea_nil)))) ea_nil)))))))
    (es_one (es_ret (ev_var 1 rfl (.inl rfl))))))
theorem ok_Profile_cold (X : K.In h) (G : h.Ns mainGlobals mg) (c : SaysW fa pr op bn xf fn K) : FnA P w K mg base 1 (prG K ⟨"Profile", "cold"⟩) ["self"] (spD K (TT K) 1 g_Profile_cold) :=
  fnA (c.def_ 14 (d := d_Profile_cold) rfl) (fun fd F => FunD.bindsN F fun _ _ _ _ _ _ us hl => match us, hl with | [_], _ => rfl) fun fd F =>
    fn_D F sc_Profile_cold fun cdv A outer s H E hr nr =>
    (es_one (es_ret (ev_fld NMf [0] rfl (fld_own_cold c) (ev_var 0 rfl (.inl rfl)))))
theorem ok__law_halved (X : K.In h) (G : h.Ns mainGlobals mg) (c : SaysW fa pr op bn xf fn K) : FnB P w K mg base 2 "_law_halved" ["pond", "given"] (spL K (TT K) 2 g__law_halved) :=
  fnB (c.def_ 15 (d := d__law_halved) rfl) (He.glo_ok X G (c.fact 15 (f := .glo "_law_halved") rfl)) (fun fd F => FunD.bindsN F fun _ _ _ _ _ _ us hl => match us, hl with | [_, _], _ => rfl) fun fd F =>
    fn_L F sc__law_halved fun cdv A outer s H E hr nr =>
    (es_cons (es_set (i := 2) sc__law_halved.nd rfl (.inl rfl) (ev_cell (evL_lst ea_nil)))
    (es_cons (es_for PassesOwn.never rfl (ei_seq (ev_var 1 rfl (.inl rfl))) (eg_tup rfl (egs_cons (eg_name 3 sc__law_halved.nd rfl (.inl rfl)) (egs_cons (eg_name 4 sc__law_halved.nd rfl (.inl rfl)) (egs_cons (eg_name 5 sc__law_halved.nd rfl (.inl rfl)) egs_nil)))) (es_one (es_if (evt_of (evw_and (ev_cmpT op_dLt rfl (ev_var 3 rfl (.inl rfl)) (ev_var 4 rfl (.inl rfl))) (evw_and1 (ev_cmpT (op_dEq hr.units) rfl (ev_callB (ok__law_dip X G c) hr (by decide) nr (by rfl) (ea_cons (ev_var 0 rfl (.inl rfl)) (ea_cons ev_int ea_nil))) ev_int)))) (es_cons (es_set (i := 6) sc__law_halved.nd rfl (.inl rfl) (ev_bin op_dAdd (ev_var 3 rfl (.inl rfl)) (ev_callB (ok__law_dip X G c) hr (by decide) nr (by rfl) (ea_cons (ev_var 0 rfl (.inl rfl)) (ea_cons (ev_bin op_dSub (ev_var 4 rfl (.inl rfl)) (ev_var 3 rfl (.inl rfl))) ea_nil)))))
    (es_one (es_set (i := 2) sc__law_halved.nd rfl (.inl rfl) (ev_cell (evL_bin op_catL (ev_var 2 rfl (.inl rfl)) (ev_frz (evL_lst (ea_cons (ev_tup (ea_cons (ev_var 3 rfl (.inl rfl)) (ea_cons (ev_var 6 rfl (.inl rfl)) (ea_cons (ev_var 5 rfl (.inl rfl)) ea_nil)))) (ea_cons (ev_tup (ea_cons (ev_bin op_dAdd (ev_var 6 rfl (.inl rfl)) ev_int) (ea_cons (ev_var 4 rfl (.inl rfl)) (ea_cons (ev_var 5 rfl (.inl rfl)) ea_nil)))) ea_nil))))))))) (es_one (es_expr (ev_meth PySem.F.plainAttrs_list PySem.F.slot_list_append PySem.F.type_list_append mt_mAppend (ev_var 2 rfl (.inl rfl)) (ea_cons (ev_tup (ea_cons (ev_var 3 rfl (.inl rfl)) (ea_cons (ev_var 4 rfl (.inl rfl)) (ea_cons (ev_var 5 rfl (.inl rfl)) ea_nil)))) ea_nil)))))))
    (es_one (es_ret (ev_var 2 rfl (.inl rfl))))))
theorem ok__law_near (X : K.In h) (G : h.Ns mainGlobals mg) (c : SaysW fa pr op bn xf fn K) : FnB P w K mg base 2 "_law_near" ["pond", "cold", "given"] (spL K (TT K) 3 g__law_near) :=
  fnB (c.def_ 16 (d := d__law_near) rfl) (He.glo_ok X G (c.fact 16 (f := .glo "_law_near") rfl)) (fun fd F => FunD.bindsN F fun _ _ _ _ _ _ us hl => match us, hl with | [_, _, _], _ => rfl) fun fd F =>
    fn_L F sc__law_near fun cdv A outer s H E hr nr =>
    (es_cons (es_set (i := 3) sc__law_near.nd rfl (.inl rfl) (ev_cell (evL_lst (ea_cons (ev_tup (ea_cons (ev_bin op_dAdd (ev_var 1 rfl (.inl rfl)) ev_int) (ea_cons (ev_var 2 rfl (.inl rfl)) ea_nil))) (ea_cons (ev_tup (ea_cons (ev_var 1 rfl (.inl rfl)) (ea_cons (ev_slice (ev_var 2 rfl (.inl rfl)) (eo_some ev_int) eo_none) ea_nil))) (ea_cons (ev_tup (ea_cons (ev_var 1 rfl (.inl rfl)) (ea_cons (ev_slice (ev_var 2 rfl (.inl rfl)) eo_none (eo_some (ev_un un_dNeg ev_int))) ea_nil))) ea_nil))))))
    (es_cons (es_set (i := 4) sc__law_near.nd rfl (.inl rfl) (ev_ifExp (ev_cmpT (op_dNe hr.units) rfl (ev_var 2 rfl (.inl rfl)) (ev_frz (evL_lst ea_nil))) (ev_ix (ev_ix (ev_var 2 rfl (.inl rfl)) (ev_un un_dNeg ev_int) (fun _ _ => rfl)) ev_int (fun _ _ => rfl)) ev_int))
    (es_cons (es_expr (ev_meth PySem.F.plainAttrs_list PySem.F.slot_list_append PySem.F.type_list_append mt_mAppend (ev_var 3 rfl (.inl rfl)) (ea_cons (ev_tup (ea_cons (ev_var 1 rfl (.inl rfl)) (ea_cons (ev_bin op_dAdd (ev_var 2 rfl (.inl rfl)) (ev_frz (evL_lst (ea_cons (ev_tup (ea_cons (ev_bin op_dAdd (ev_var 4 rfl (.inl rfl)) ev_int) (ea_cons (ev_bin op_dAdd (ev_var 4 rfl (.inl rfl)) ev_int) (ea_cons ev_int ea_nil)))) ea_nil)))) ea_nil))) ea_nil)))
    (es_cons (es_if (ev_cmpT (op_dNe hr.units) rfl (ev_var 2 rfl (.inl rfl)) (ev_frz (evL_lst ea_nil))) (es_cons (es_set (i := 5) sc__law_near.nd rfl (.inl rfl) (ev_callB (ok__law_dip X G c) hr (by decide) nr (by rfl) (ea_cons (ev_var 0 rfl (.inl rfl)) (ea_cons (ev_cb cb_len (by rfl) (fr_len X G c) boot_len (ea_cons (ev_var 2 rfl (.inl rfl)) ea_nil)) ea_nil))))
    (es_cons (es_asg (ev_ix (ev_var 2 rfl (.inl rfl)) (ev_var 5 rfl (.inl rfl)) (fun _ _ => rfl)) (eg_tup rfl (egs_cons (eg_name 6 sc__law_near.nd rfl (.inl rfl)) (egs_cons (eg_name 7 sc__law_near.nd rfl (.inl rfl)) (egs_cons (eg_name 8 sc__law_near.nd rfl (.inl rfl)) egs_nil)))))
    (es_cons (es_expr (ev_meth PySem.F.plainAttrs_list PySem.F.slot_list_append PySem.F.type_list_append mt_mAppend (ev_var 3 rfl (.inl rfl)) (ea_cons (ev_tup (ea_cons (ev_var 1 rfl (.inl rfl)) (ea_cons (ev_bin op_dAdd (ev_bin op_dAdd (ev_slice (ev_var 2 rfl (.inl rfl)) eo_none (eo_some (ev_var 5 rfl (.inl rfl)))) (ev_frz (evL_lst (ea_cons (ev_tup (ea_cons (ev_var 6 rfl (.inl rfl)) (ea_cons (ev_var 7 rfl (.inl rfl)) (ea_cons (ev_bin op_dAdd (ev_var 8 rfl (.inl rfl)) ev_int) ea_nil)))) ea_nil)))) (ev_slice (ev_var 2 rfl (.inl rfl)) (eo_some (ev_bin op_dAdd (ev_var 5 rfl (.inl rfl)) ev_int)) eo_none)) ea_nil))) ea_nil)))
    (es_one (es_expr (ev_meth PySem.F.plainAttrs_list PySem.F.slot_list_append PySem.F.type_list_append mt_mAppend (ev_var 3 rfl (.inl rfl)) (ea_cons (ev_tup (ea_cons (ev_var 1 rfl (.inl rfl)) (ea_cons (ev_bin op_dAdd (ev_slice (ev_var 2 rfl (.inl rfl)) eo_none (eo_some (ev_un un_dNeg ev_int))) (ev_frz (evL_lst (ea_cons (ev_tup (ea_cons (ev_ix (ev_ix (ev_var 2 rfl (.inl rfl)) (ev_un un_dNeg ev_int) (fun _ _ => rfl)) ev_int (fun _ _ => rfl)) (ea_cons (ev_bin op_dAdd (ev_var 4 rfl (.inl rfl)) ev_int) (ea_cons (ev_ix (ev_ix (ev_var 2 rfl (.inl rfl)) (ev_un un_dNeg ev_int) (fun _ _ => rfl)) ev_int (fun _ _ => rfl)) ea_nil)))) ea_nil)))) ea_nil))) ea_nil))))))) es_nil)
    (es_one (es_ret (ev_var 3 rfl (.inl rfl))))))))
theorem ok__law_right (X : K.In h) (G : h.Ns mainGlobals mg) (c : SaysW fa pr op bn xf fn K) : FnB P w K mg base 8 "_law_right" ["pond", "cold", "given"] (spD K (TT K) 3 g__law_right) :=
  fnB (c.def_ 17 (d := d__law_right) rfl) (He.glo_ok X G (c.fact 17 (f := .glo "_law_right") rfl)) (fun fd F => FunD.bindsN F fun _ _ _ _ _ _ us hl => match us, hl with | [_, _, _], _ => rfl) fun fd F =>
    fn_D F sc__law_right fun cdv A outer s H E hr nr =>
    (es_cons (es_asg (ev_tup (ea_cons (ev_lend 2 (ev_makeA (NM := NMf) (c := 0) (ok_Profile___init__ X G c) hr (by decide) nr rfl (He.mkr_ok (c.fact 4 rfl)) (He.glo_ok X G (c.fact 3 rfl)) (by rfl) (ea_cons (ev_var 1 rfl (.inl rfl)) (ea_cons (ev_var 2 rfl (.inl rfl)) ea_nil)))) (ea_cons (ev_frz (evL_lend 2 (evL_callB (ok__law_joined X G c) hr (by decide) nr (by rfl) (ea_cons (ev_var 2 rfl (.inl rfl)) ea_nil)))) ea_nil))) (eg_tup rfl (egs_cons (eg_name 3 sc__law_right.nd rfl (.inr rfl)) (egs_cons (eg_name 4 sc__law_right.nd rfl (.inl rfl)) egs_nil))))
    (es_cons (es_set (i := 5) sc__law_right.nd rfl (.inl rfl) (ev_frz (evL_ct ct_list (by rfl) (fr_list X G c) boot_list (ea_cons (ev_var 2 rfl (.inl rfl)) ea_nil))))
    (es_cons (es_set (i := 6) sc__law_right.nd rfl (.inl rfl) (ev_bin op_dAdd (ev_var 1 rfl (.inl rfl)) (ev_lend 2 (ev_cb (cb_sum rfl) (by rfl) (fr_sum X G c) boot_sum (ea_cons (ev_frz (evL_lc (own := [("low", 13), ("high", 14), ("often", 15)]) rfl sc__law_right.nd (ei_seq (ev_var 2 rfl (.inl rfl))) (blkOk_by (N := N__law_right) (sc := (defScope s__law_right)) (own := [("low", 13), ("high", 14), ("often", 15)]) (by decide +kernel)) (fun _ _ _ _ _ => (eg_tup rfl (egs_cons (eg_name 13 sc__law_right.nd rfl (.inl rfl)) (egs_cons (eg_name 14 sc__law_right.nd rfl (.inl rfl)) (egs_cons (eg_name 15 sc__law_right.nd rfl (.inl rfl)) egs_nil))))) (fun _ _ _ _ _ => ets_nil) (fun _ _ _ _ _ => (ev_bin op_dMul (ev_var 15 rfl (.inl rfl)) (ev_bin op_dAdd (ev_bin op_dSub (ev_var 14 rfl (.inl rfl)) (ev_var 13 rfl (.inl rfl))) ev_int))))) ea_nil)))))
    (es_cons (es_if (evt_of (evw_or (ev_cmpT (op_dNe hr.units) rfl (ev_cb (cb_repr hr.units nr) (by rfl) (fr_repr X G c) boot_repr (ea_cons (ev_frz (evL_lst (ea_cons (ev_propA (NM := NMf) (c := 0) (ok_Profile_cold X G c) hr (by decide) nr rfl (He.cls_ok (c.fact 0 rfl)) (c.prop 0 (p := ⟨"Profile", "cold"⟩) rfl) (ev_var 3 rfl (.inr (.inl rfl)))) (ea_cons (ev_frz (evL_propA (NM := NMf) (c := 0) (ok_Profile_pieces X G c) hr (by decide) nr rfl (He.cls_ok (c.fact 0 rfl)) (c.prop 1 (p := ⟨"Profile", "pieces"⟩) rfl) (ev_var 3 rfl (.inr (.inl rfl))))) (ea_cons (ev_propA (NM := NMf) (c := 0) (ok_Profile_accesses X G c) hr (by decide) nr rfl (He.cls_ok (c.fact 0 rfl)) (c.prop 2 (p := ⟨"Profile", "accesses"⟩) rfl) (ev_var 3 rfl (.inr (.inl rfl)))) ea_nil))))) ea_nil)) (ev_cb (cb_repr hr.units nr) (by rfl) (fr_repr X G c) boot_repr (ea_cons (ev_frz (evL_lst (ea_cons (ev_var 1 rfl (.inl rfl)) (ea_cons (ev_var 4 rfl (.inl rfl)) (ea_cons (ev_var 6 rfl (.inl rfl)) ea_nil))))) ea_nil))) (evw_or1 (ev_cmpT (op_dNe hr.units) rfl (ev_var 2 rfl (.inl rfl)) (ev_var 5 rfl (.inl rfl)))))) (es_one (es_ret ev_bl)) es_nil)
    (es_cons (es_expr (ev_meth PySem.F.plainAttrs_list PySem.F.slot_list_append PySem.F.type_list_append mt_mAppend (ev_cell (evL_propA (NM := NMf) (c := 0) (ok_Profile_pieces X G c) hr (by decide) nr rfl (He.cls_ok (c.fact 0 rfl)) (c.prop 1 (p := ⟨"Profile", "pieces"⟩) rfl) (ev_var 3 rfl (.inr (.inl rfl))))) (ea_cons (ev_tup (ea_cons (ev_bin op_dPow ev_int ev_int) (ea_cons (ev_bin op_dPow ev_int ev_int) (ea_cons ev_int ea_nil)))) ea_nil)))
    (es_cons (es_expr (ev_meth PySem.F.plainAttrs_list PySem.F.slot_list_append PySem.F.type_list_append mt_mAppend (ev_var 2 rfl (.inl rfl)) (ea_cons (ev_tup (ea_cons ev_int (ea_cons ev_int (ea_cons ev_int ea_nil)))) ea_nil)))
    (es_cons (es_if (evt_of (evw_or (ev_cmpT (op_dNe hr.units) rfl (ev_frz (evL_propA (NM := NMf) (c := 0) (ok_Profile_pieces X G c) hr (by decide) nr rfl (He.cls_ok (c.fact 0 rfl)) (c.prop 1 (p := ⟨"Profile", "pieces"⟩) rfl) (ev_var 3 rfl (.inr (.inl rfl))))) (ev_var 4 rfl (.inl rfl))) (evw_or1 (ev_cmpT (op_dNe hr.units) rfl (ev_propA (NM := NMf) (c := 0) (ok_Profile_accesses X G c) hr (by decide) nr rfl (He.cls_ok (c.fact 0 rfl)) (c.prop 2 (p := ⟨"Profile", "accesses"⟩) rfl) (ev_var 3 rfl (.inr (.inl rfl)))) (ev_var 6 rfl (.inl rfl)))))) (es_one (es_ret ev_bl)) es_nil)
    (es_cons (es_for PassesOwn.never rfl (ei_range1 (by rfl) (fr_range X G c) (ea_cons ev_int ea_nil)) (eg_name 7 sc__law_right.nd rfl (.inl rfl)) (es_cons (es_set (i := 8) sc__law_right.nd rfl (.inl rfl) (ev_makeA (NM := NMf) (c := 0) (ok_Profile___init__ X G c) hr (by decide) nr rfl (He.mkr_ok (c.fact 4 rfl)) (He.glo_ok X G (c.fact 3 rfl)) (by rfl) (ea_cons (ev_var 1 rfl (.inl rfl)) (ea_cons (ev_frz (evL_callB (ok__law_halved X G c) hr (by decide) nr (by rfl) (ea_cons (ev_var 0 rfl (.inl rfl)) (ea_cons (ev_var 5 rfl (.inl rfl)) ea_nil)))) ea_nil))))
    (es_one (es_if (evt_of (evw_or (evt_not (ev_cmpTM (op_eqA (c := 0) (ok_Profile___eq__ X G c) hr (by decide) nr (c.own 0 (p := ⟨"Profile", "__eq__"⟩) rfl)) rfl (ev_var 3 rfl (.inr (.inl rfl))) (ev_var 8 rfl (.inl rfl)))) (evw_or (ev_cmpTM (op_neA (c := 0) (ok_Profile___eq__ X G c) hr (by decide) nr (c.own 0 (p := ⟨"Profile", "__eq__"⟩) rfl) (neF_Profile c)) rfl (ev_var 3 rfl (.inr (.inl rfl))) (ev_var 8 rfl (.inl rfl))) (evw_or1 (ev_cmpT (op_dNe hr.units) rfl (ev_frz (evL_propA (NM := NMf) (c := 0) (ok_Profile_pieces X G c) hr (by decide) nr rfl (He.cls_ok (c.fact 0 rfl)) (c.prop 1 (p := ⟨"Profile", "pieces"⟩) rfl) (ev_var 8 rfl (.inl rfl)))) (ev_var 4 rfl (.inl rfl))))))) (es_one (es_ret ev_bl)) es_nil))))
    (es_cons (es_for PassesOwn.never rfl (ei_seq (ev_frz (evL_callB (ok__law_near X G c) hr (by decide) nr (by rfl) (ea_cons (ev_var 0 rfl (.inl rfl)) (ea_cons (ev_var 1 rfl (.inl rfl)) (ea_cons (ev_var 5 rfl (.inl rfl)) ea_nil)))))) (eg_tup rfl (egs_cons (eg_name 9 sc__law_right.nd rfl (.inl rfl)) (egs_cons (eg_name 10 sc__law_right.nd rfl (.inl rfl)) egs_nil))) (es_cons (es_set (i := 11) sc__law_right.nd rfl (.inl rfl) (ev_and (ev_cmp (op_dEq hr.units) rfl (ev_var 9 rfl (.inl rfl)) (ev_var 1 rfl (.inl rfl))) (ev_one (ev_cmp (op_dEq hr.units) rfl (ev_frz (evL_callB (ok__law_joined X G c) hr (by decide) nr (by rfl) (ea_cons (ev_var 10 rfl (.inl rfl)) ea_nil))) (ev_var 4 rfl (.inl rfl))))))
    (es_one (es_if (evt_of (evw_or (ev_cmpT (op_dNe hr.units) rfl (ev_cmpM (op_eqA (c := 0) (ok_Profile___eq__ X G c) hr (by decide) nr (c.own 0 (p := ⟨"Profile", "__eq__"⟩) rfl)) rfl (ev_var 3 rfl (.inr (.inl rfl))) (ev_makeA (NM := NMf) (c := 0) (ok_Profile___init__ X G c) hr (by decide) nr rfl (He.mkr_ok (c.fact 4 rfl)) (He.glo_ok X G (c.fact 3 rfl)) (by rfl) (ea_cons (ev_var 9 rfl (.inl rfl)) (ea_cons (ev_var 10 rfl (.inl rfl)) ea_nil)))) (ev_var 11 rfl (.inl rfl))) (evw_or1 (ev_cmpT (op_dEq hr.units) rfl (ev_cmpM (op_neA (c := 0) (ok_Profile___eq__ X G c) hr (by decide) nr (c.own 0 (p := ⟨"Profile", "__eq__"⟩) rfl) (neF_Profile c)) rfl (ev_var 3 rfl (.inr (.inl rfl))) (ev_makeA (NM := NMf) (c := 0) (ok_Profile___init__ X G c) hr (by decide) nr rfl (He.mkr_ok (c.fact 4 rfl)) (He.glo_ok X G (c.fact 3 rfl)) (by rfl) (ea_cons (ev_var 9 rfl (.inl rfl)) (ea_cons (ev_var 10 rfl (.inl rfl)) ea_nil)))) (ev_var 11 rfl (.inl rfl)))))) (es_one (es_ret ev_bl)) es_nil))))
    (es_one (es_ret (ev_cmp (op_dEq hr.units) rfl (ev_frz (evL_lc (own := [("thing", 12)]) rfl sc__law_right.nd (ei_seq (ev_tup (ea_cons ev_non (ea_cons (ev_var 1 rfl (.inl rfl)) (ea_cons (ev_var 4 rfl (.inl rfl)) (ea_cons (ev_tup (ea_cons (ev_var 1 rfl (.inl rfl)) (ea_cons (ev_var 4 rfl (.inl rfl)) ea_nil))) (ea_cons (ev_str (by decide +kernel)) (ea_cons ev_d0 ea_nil)))))))) (blkOk_by (N := N__law_right) (sc := (defScope s__law_right)) (own := [("thing", 12)]) (by decide +kernel)) (fun _ _ _ _ _ => (eg_name 12 sc__law_right.nd rfl (.inl rfl))) (fun _ _ _ _ _ => (ets_one (ev_cmpTM (op_eqA (c := 0) (ok_Profile___eq__ X G c) hr (by decide) nr (c.own 0 (p := ⟨"Profile", "__eq__"⟩) rfl)) rfl (ev_var 3 rfl (.inr (.inl rfl))) (ev_var 12 rfl (.inl rfl))))) (fun _ _ _ _ _ => ev_int))) (ev_frz (evL_lst ea_nil))))))))))))))
theorem fnG_law (X : K.In h) (G : h.Ns mainGlobals mg) (c : SaysW fa pr op bn xf fn K) (fd : FuncData) (F : FunD K "law" "law" (defArgs s_law) (defBody s_law) (defScope s_law) [] [] (He.ga K "law") fd) : FnG P w K mg base 9 (He.ga K "law") fd ["script"] (spD K (TT K) 1 g_law) :=
    fn_D F sc_law fun cdv A outer s H E hr nr =>
    (es_cons (es_for PassesOwn.never rfl (ei_range1 (by rfl) (fr_range X G c) (ea_cons (ev_cb (cb_max2 rfl) (by rfl) (fr_max X G c) boot_max (ea_cons ev_int (ea_cons (ev_cb (cb_min2 rfl) (by rfl) (fr_min X G c) boot_min (ea_cons ev_int (ea_cons (ev_cb cb_len (by rfl) (fr_len X G c) boot_len (ea_cons (ev_var 0 rfl (.inl rfl)) ea_nil)) ea_nil))) ea_nil))) ea_nil)) (eg_name 1 sc_law.nd rfl (.inl rfl)) (es_cons (es_set (i := 2) sc_law.nd rfl (.inl rfl) (ev_cell (evL_callB (ok__law_pond X G c) hr (by decide) nr (by rfl) (ea_cons (ev_var 0 rfl (.inl rfl)) (ea_cons (ev_var 1 rfl (.inl rfl)) ea_nil)))))
    (es_cons (es_for PassesOwn.never rfl (ei_range1 (by rfl) (fr_range X G c) (ea_cons ev_int ea_nil)) (eg_name 3 sc_law.nd rfl (.inl rfl)) (es_cons (es_set (i := 4) sc_law.nd rfl (.inl rfl) (ev_ix (ev_frz (evL_lst (ea_cons ev_int (ea_cons (ev_bin op_dPow ev_int ev_int) ea_nil)))) (ev_bin op_dMod (ev_var 3 rfl (.inl rfl)) ev_int) (fun _ _ => rfl)))
    (es_one (es_if (evt_not (ev_val (ev_callB (ok__law_right X G c) hr (by decide) nr (by rfl) (ea_cons (ev_var 2 rfl (.inl rfl)) (ea_cons (ev_ix (ev_frz (evL_lst (ea_cons ev_int (ea_cons (ev_callB (ok__law_dip X G c) hr (by decide) nr (by rfl) (ea_cons (ev_var 2 rfl (.inl rfl)) (ea_cons (ev_var 4 rfl (.inl rfl)) ea_nil))) ea_nil)))) (ev_callB (ok__law_dip X G c) hr (by decide) nr (by rfl) (ea_cons (ev_var 2 rfl (.inl rfl)) (ea_cons ev_int ea_nil))) (fun _ _ => rfl)) (ea_cons (ev_cell (evL_callB (ok__law_given X G c) hr (by decide) nr (by rfl) (ea_cons (ev_var 2 rfl (.inl rfl)) (ea_cons (ev_var 4 rfl (.inl rfl)) ea_nil)))) ea_nil)))))) (es_one (es_ret ev_bl)) es_nil))))
    (es_cons (es_set (i := 5) sc_law.nd rfl (.inl rfl) (ev_cell (evL_callB (ok__law_many X G c) hr (by decide) nr (by rfl) (ea_cons (ev_var 2 rfl (.inl rfl)) (ea_cons (ev_bin op_dAdd ev_int (ev_callB (ok__law_dip X G c) hr (by decide) nr (by rfl) (ea_cons (ev_var 2 rfl (.inl rfl)) (ea_cons ev_int ea_nil)))) ea_nil)))))
    (es_one (es_if (evt_of (evw_and (ev_cmpT (op_dEq hr.units) rfl (ev_var 1 rfl (.inl rfl)) ev_int) (evw_and1 (evt_not (ev_val (ev_callB (ok__law_right X G c) hr (by decide) nr (by rfl) (ea_cons (ev_var 2 rfl (.inl rfl)) (ea_cons (ev_callB (ok__law_dip X G c) hr (by decide) nr (by rfl) (ea_cons (ev_var 2 rfl (.inl rfl)) (ea_cons ev_int ea_nil))) (ea_cons (ev_var 5 rfl (.inl rfl)) ea_nil))))))))) (es_one (es_ret ev_bl)) es_nil))))))
    (es_cons (es_set (i := 5) sc_law.nd rfl (.inl rfl) (ev_cell (evL_callB (ok__law_many X G c) hr (by decide) nr (by rfl) (ea_cons (ev_cell (evL_callB (ok__law_pond X G c) hr (by decide) nr (by rfl) (ea_cons (ev_var 0 rfl (.inl rfl)) (ea_cons ev_int ea_nil)))) (ea_cons ev_int ea_nil)))))
    (es_cons (es_par (i := 6) (j := 7) rfl sc_law.nd rfl rfl (by decide) rfl rfl (ea_cons (ev_makeA (NM := NMf) (c := 0) (ok_Profile___init__ X G c) hr (by decide) nr rfl (He.mkr_ok (c.fact 4 rfl)) (He.glo_ok X G (c.fact 3 rfl)) (by rfl) (ea_cons ev_int (ea_cons (ev_fz (ev_var 5 rfl (.inl rfl))) ea_nil))) (ea_cons (ev_makeA (NM := NMf) (c := 0) (ok_Profile___init__ X G c) hr (by decide) nr rfl (He.mkr_ok (c.fact 4 rfl)) (He.glo_ok X G (c.fact 3 rfl)) (by rfl) (ea_cons ev_int (ea_cons (ev_frz (evL_callB (ok__law_joined X G c) hr (by decide) nr (by rfl) (ea_cons (ev_fz (ev_var 5 rfl (.inl rfl))) ea_nil))) ea_nil))) ea_nil)) rfl)
    (es_cons (es_if (evt_of (evw_or (ev_cmpT (op_dNe hr.units) rfl (ev_frz (evL_propA (NM := NMf) (c := 0) (ok_Profile_pieces X G c) hr (by decide) nr rfl (He.cls_ok (c.fact 0 rfl)) (c.prop 1 (p := ⟨"Profile", "pieces"⟩) rfl) (ev_var 6 rfl (.inl rfl)))) (ev_frz (evL_callB (ok__law_joined X G c) hr (by decide) nr (by rfl) (ea_cons (ev_fz (ev_var 5 rfl (.inl rfl))) ea_nil)))) (evw_or (evt_not (ev_cmpTM (op_eqA (c := 0) (ok_Profile___eq__ X G c) hr (by decide) nr (c.own 0 (p := ⟨"Profile", "__eq__"⟩) rfl)) rfl (ev_var 6 rfl (.inl rfl)) (ev_var 7 rfl (.inl rfl)))) (evw_or1 (ev_cmpT (op_dNe hr.units) rfl (ev_propA (NM := NMf) (c := 0) (ok_Profile_accesses X G c) hr (by decide) nr rfl (He.cls_ok (c.fact 0 rfl)) (c.prop 2 (p := ⟨"Profile", "accesses"⟩) rfl) (ev_var 6 rfl (.inl rfl))) (ev_propA (NM := NMf) (c := 0) (ok_Profile_accesses X G c) hr (by decide) nr rfl (He.cls_ok (c.fact 0 rfl)) (c.prop 2 (p := ⟨"Profile", "accesses"⟩) rfl) (ev_var 7 rfl (.inl rfl)))))))) (es_one (es_ret ev_bl)) es_nil)
    (es_cons (es_set (i := 6) sc_law.nd rfl (.inl rfl) (ev_makeA (NM := NMf) (c := 0) (ok_Profile___init__ X G c) hr (by decide) nr rfl (He.mkr_ok (c.fact 4 rfl)) (He.glo_ok X G (c.fact 3 rfl)) (by rfl) (ea_cons ev_int (ea_cons (ev_frz (evL_lst (ea_cons (ev_tup (ea_cons ev_int (ea_cons ev_int (ea_cons ev_int ea_nil)))) (ea_cons (ev_tup (ea_cons ev_int (ea_cons ev_int (ea_cons ev_int ea_nil)))) (ea_cons (ev_tup (ea_cons ev_int (ea_cons ev_int (ea_cons ev_int ea_nil)))) ea_nil))))) ea_nil))))
    (es_one (es_ret (ev_cmp (op_dEq hr.units) rfl (ev_frz (evL_lst (ea_cons (ev_frz (evL_propA (NM := NMf) (c := 0) (ok_Profile_pieces X G c) hr (by decide) nr rfl (He.cls_ok (c.fact 0 rfl)) (c.prop 1 (p := ⟨"Profile", "pieces"⟩) rfl) (ev_var 6 rfl (.inl rfl)))) (ea_cons (ev_propA (NM := NMf) (c := 0) (ok_Profile_accesses X G c) hr (by decide) nr rfl (He.cls_ok (c.fact 0 rfl)) (c.prop 2 (p := ⟨"Profile", "accesses"⟩) rfl) (ev_var 6 rfl (.inl rfl))) ea_nil)))) (ev_frz (evL_lst (ea_cons (ev_frz (evL_lst (ea_cons (ev_tup (ea_cons ev_int (ea_cons ev_int (ea_cons ev_int ea_nil)))) (ea_cons (ev_tup (ea_cons ev_int (ea_cons ev_int (ea_cons ev_int ea_nil)))) ea_nil)))) (ea_cons ev_int ea_nil))))))))))))
end
section
variable {S : Cells} {l : List D}
theorem ff_Profile_own_cold {x0 x1 : D} : fldD NMf [0] "own_cold" (.obj 0 [x0, x1]) S = some x0 := nrfl rfl
theorem ff_Profile_own_pieces {x0 x1 : D} : fldD NMf [0] "own_pieces" (.obj 0 [x0, x1]) S = some x1 := nrfl rfl
theorem fm_Profile_pieces : isC NMf 0 "pieces" (.obj 0 l) S = some () := by
  unfold isC
  exact if_pos ⟨rfl, by decide +kernel⟩
theorem fm_Profile_accesses : isC NMf 0 "accesses" (.obj 0 l) S = some () := by
  unfold isC
  exact if_pos ⟨rfl, by decide +kernel⟩
theorem fm_Profile_cold : isC NMf 0 "cold" (.obj 0 l) S = some () := by
  unfold isC
  exact if_pos ⟨rfl, by decide +kernel⟩
theorem isf_Profile_Profile : isiCD tab_Profile (.obj 0 l) S = some (.bl true) := nrfl rfl
theorem isf_Profile_0s {x : PySem.Str} : isiCD tab_Profile (.str x) S = some (.bl false) := nrfl rfl
theorem isf_Profile_0i {i : Int} : isiCD tab_Profile (.int i) S = some (.bl false) := nrfl rfl
theorem isf_Profile_0l {i : List D} : isiCD tab_Profile (.lst i) S = some (.bl false) := nrfl rfl
theorem isf_Profile_0t {i : List D} : isiCD tab_Profile (.tup i) S = some (.bl false) := nrfl rfl
theorem isf_Profile_0n : isiCD tab_Profile .non S = some (.bl false) := nrfl rfl
theorem isf_Profile_0b {b : Bool} : isiCD tab_Profile (.bl b) S = some (.bl false) := nrfl rfl
theorem isf_Profile_0d {l : List D} : isiCD tab_Profile (.ext 0 l) S = some (.bl false) := nrfl rfl
end
end K12
end
section
set_option maxHeartbeats 0
namespace K12
open PySem PySem.Spec L2 DL
open PyProof.Rows hiding St
def nm0 : List Str := ["_wall", "ScanError", "InvalidSize", "InvalidNumber", "InvalidProfile", "is_int", "in_range", "require_size", "require_number", "MOST_TIMES", "is_piece", "are_pieces", "joined_pieces", "multiplied", "Profile", "profile_from", "_law_pond", "_law_dip", "_law_given", "_law_many", "_law_joined", "_law_halved", "_law_near", "_law_right"]
def nms : List Str := nm0
abbrev R : PySem.W.OpenRow := PySem.W.OpenLaw.row PySem.Challenge.rw_scanmisses_k12_profiles_made_of_pieces
abbrev hk : PySem.W.Hook := hookW 6 fa pr op bn xf fn
def ob (s : PySem.W.SharedT) : AlQ := obsWG 6 fa pr op bn xf fn (HandSHeadRun.getT s)
theorem ob_eq (s : PySem.W.SharedT) : ob s = hk.obs s.abs := obsWG_eq (HandSHeadRun.getT_eq s)
set_option maxHeartbeats 0 in
theorem run (w : World) : HandSHeadRun.RunEq R (PySem.W.view R.prog [28]) hk ob 3040 nms w := by
  intro os
  kernel_rfl
theorem facts {P : Program} {w : World} {K : PySem.W.Frag} {h : Heap} {mg : Str → Option Value} {f : Addr} (X : K.In h) (G : h.Ns mainGlobals mg) (hfa : mg ("law" : Str) = some (.ref f)) (c : SaysW fa pr op bn xf fn K) :
    ∃ (K' : PySem.W.Frag) (fd : FuncData) (T : Tab), K'.In h ∧ (∀ (s : Shared) (v : Value), BindsTo s fd ⟨[v], []⟩ [("script", v)]) ∧ ∀ base : Heap, K'.In base → base.Ns mainGlobals mg → FnG P w K' mg base 9 f fd ["script"] (spD K' T 1 g_law) := by
  obtain ⟨fd, F⟩ := c.def_ 18 (d := d_law) rfl
  have e := hfa.symm.trans (He.glo_ok X G (c.fact 18 (f := .glo "law") rfl))
  cases e
  have b := FunD.bindsA (ps := ["script"]) F fun _ _ _ _ _ _ us hl => match us, hl with | [_], _ => rfl
  refine ⟨K, fd, TT K, X, fun s v => b s [v] rfl, fun base _ _ => ?_⟩
  exact fnG_law X G c fd F
end K12
end
section
set_option maxHeartbeats 400000
namespace MT
open PySem PySem.Spec L2
abbrev L (x : Str) : List Nat := x.cps.toList
theorem ext {x y : Str} (h : L x = L y) : x = y := Str.ext' (Array.toList_inj.mp h)
end MT
end
section
set_option maxHeartbeats 400000
namespace MN
open PySem PySem.Spec L2 DL MT
inductive Nd where
  | sc (a b : Int)
  | rp (l : List Nd) (t : Int)
/-- the number of addresses, the step -/
def sz (a b : Int) : Int := (if b - a < 0 then -(b - a) else b - a) + 1
def stp (a b : Int) : Int := if a ≤ b then 1 else -1
def scn (a b : Int) : List Int := (List.range (sz a b).toNat).map fun k : Nat => a + stp a b * (k : Int)
mutual
def dp : Nd → Nat
  | .sc _ _ => 0
  | .rp l _ => dps l + 1
def dps : List Nd → Nat
  | [] => 0
  | n :: l => max (dp n) (dps l)
end
mutual
def scs : Nd → List (Int × Int)
  | .sc a b => [(a, b)]
  | .rp l _ => scss l
def scss : List Nd → List (Int × Int)
  | [] => []
  | n :: l => scs n ++ scss l
end
mutual
def len : Nd → Int
  | .sc a b => sz a b
  | .rp l t => lens l * t
def lens : List Nd → Int
  | [] => 0
  | n :: l => len n + lens l
end
mutual
def rds : Nd → List Int
  | .sc a b => scn a b
  | .rp l t => (List.replicate t.toNat (rdss l)).flatten
def rdss : List Nd → List Int
  | [] => []
  | n :: l => rds n ++ rdss l
end
mutual
def ok (w h : Int) : Nd → Prop
  | .sc a b => (0 ≤ a ∧ a < w) ∧ (0 ≤ b ∧ b < w)
  | .rp l t => l ≠ [] ∧ (2 ≤ t ∧ t ≤ h) ∧ oks w h l
def oks (w h : Int) : List Nd → Prop
  | [] => True
  | n :: l => ok w h n ∧ oks w h l
end
mutual
def eP : Nd → D
  | .sc a b => .tup [.str "scan", .int a, .int b]
  | .rp l t => .tup [.str "repeat", .tup (ePs l), .int t]
def ePs : List Nd → List D
  | [] => []
  | n :: l => eP n :: ePs l
end
theorem ePs_map (l : List Nd) : ePs l = l.map eP := by
  induction l with
  | nil => rfl
  | cons n l ih => rw [ePs, ih]; rfl
theorem eP_rp (l : List Nd) (t : Int) : eP (.rp l t) = .tup [.str "repeat", .tup (l.map eP), .int t] := by rw [eP, ePs_map]
theorem eP_sc (a b : Int) : eP (.sc a b) = .tup [.str "scan", .int a, .int b] := by rw [eP]
theorem dp_mem {l : List Nd} {n : Nd} (h : n ∈ l) : dp n ≤ dps l := by
  induction l with
  | nil => simp at h
  | cons m l ih =>
    rw [dps]
    rcases List.mem_cons.mp h with h | h
    · subst h; omega
    · have := ih h; omega
theorem ok_mem {w h : Int} {l : List Nd} {n : Nd} (k : oks w h l) (hn : n ∈ l) : ok w h n := by
  induction l with
  | nil => simp at hn
  | cons m l ih =>
    rw [oks] at k
    rcases List.mem_cons.mp hn with z | z
    · subst z; exact k.1
    · exact ih k.2 z
end MN
end
section
set_option maxHeartbeats 400000
namespace MN
open PySem PySem.Spec L2 DL MT
/-- reads split at k: nodes of both parts -/
structure Sp (w h : Int) (R : List Int) (k d c : Nat) (A B : List Nd) : Prop where
  ra : rdss A = R.take k
  rb : rdss B = R.drop k
  oa : oks w h A
  ob : oks w h B
  da : dps A ≤ d
  db : dps B ≤ d
  ca : (scss A).length ≤ (d + 1) * c
  cb : (scss B).length ≤ (d + 1) * c
end MN
end
section
set_option maxHeartbeats 400000
namespace DL
open PySem PySem.Spec L2
open PyProof.Rows hiding St
section
variable {S : Cells} {n : Nat} {l : List D}
theorem strGood_scan : strGood "scan" := by
  refine ⟨?_, by decide +kernel⟩
  decide +kernel
theorem strGood_repeat : strGood "repeat" := by
  refine ⟨?_, by decide +kernel⟩
  decide +kernel
open MN in
/-- nodes as plain data -/
theorem gd_eP {w h : Int} (hw : ∀ i : Int, 0 ≤ i → i < w → logOk i) (hh : ∀ i : Int, 0 ≤ i → i ≤ h → logOk i) : ∀ n l, dps l ≤ n → oks w h l → ∀ m ∈ l, Gd (2 * n + 1) (eP m) := by
  have one : ∀ n : Nat, (∀ l, dps l < n → oks w h l → ∀ m ∈ l, Gd (2 * (n - 1) + 1) (eP m)) → ∀ l, dps l ≤ n → oks w h l → ∀ m ∈ l, Gd (2 * n + 1) (eP m) := by
    intro n ihn l hl hk m hm
    have hd := dp_mem hm
    have ho := ok_mem hk hm
    cases m with
    | sc a b =>
      rw [ok] at ho
      rw [eP_sc]
      refine .tup fun d hd => ?_
      simp only [List.mem_cons, List.not_mem_nil, or_false] at hd
      rcases hd with e | e | e <;> subst e
      · exact .str strGood_scan
      · exact .int (hw _ ho.1.1 ho.1.2)
      · exact .int (hw _ ho.2.1 ho.2.2)
    | rp l2 t =>
      rw [dp] at hd
      rw [ok] at ho
      rw [eP_rp]
      obtain ⟨j, rfl⟩ : ∃ j, n = j + 1 := ⟨n - 1, by omega⟩
      refine Gd.tup (n := 2 * (j + 1)) fun d hd => ?_
      simp only [List.mem_cons, List.not_mem_nil, or_false] at hd
      rcases hd with e | e | e <;> subst e
      · exact .str strGood_repeat
      · exact Gd.tup (n := 2 * j + 1) (Gd.map (ihn l2 (by omega) ho.2.2))
      · exact .int (hh _ (by omega) ho.2.1.2)
  intro n
  induction n with
  | zero => exact one 0 fun l hl => by omega
  | succ n ih => exact one (n + 1) fun l hl => ih l (by omega)
end
end DL
end
section
set_option maxHeartbeats 400000
namespace DL
open PySem PySem.Spec L2 MT MN
open PyProof.Rows hiding St
inductive Gs : D → Prop
  | non : Gs .non
  | int {i : Int} : Gs (.int i)
  | str {x : Str} : Gs (.str x)
  | lst {l : List D} : (∀ d ∈ l, Gs d) → Gs (.lst l)
  | tup {l : List D} : (∀ d ∈ l, Gs d) → Gs (.tup l)
theorem toPyL_cons {d : D} {l : List D} {ps : List PyData} (h : toPyL (d :: l) = some ps) : ∃ p qs, ps = p :: qs ∧ toPy d = some p ∧ toPyL l = some qs := by
  have h : (match toPy d, toPyL l with
    | some e, some es => some (e :: es)
    | _, _ => none) = some ps := h
  split at h
  · cases h
    exact ⟨_, _, rfl, by assumption, by assumption⟩
  · cases h
theorem gsL : ∀ (l : List D), (∀ d ∈ l, ∀ e, Gs e → ∀ p q, toPy d = some p → toPy e = some q → PyData.eqv p q = true → d = e) → ∀ m : List D, (∀ e ∈ m, Gs e) → ∀ ps qs, toPyL l = some ps → toPyL m = some qs → PyData.eqvAll ps qs = true → l = m
  | [], _, [], _, _, _, _, _, _ => rfl
  | [], _, e :: m, _, ps, qs, h1, h2, h => by
    cases h1
    obtain ⟨q, qs', rfl, _, _⟩ := toPyL_cons h2
    exact absurd h (by simp [PyData.eqvAll])
  | d :: l, _, [], _, ps, qs, h1, h2, h => by
    cases h2
    obtain ⟨q, qs', rfl, _, _⟩ := toPyL_cons h1
    exact absurd h (by simp [PyData.eqvAll])
  | d :: l, hd, e :: m, he, ps, qs, h1, h2, h => by
    obtain ⟨p, ps', rfl, p1, p2⟩ := toPyL_cons h1
    obtain ⟨q, qs', rfl, q1, q2⟩ := toPyL_cons h2
    have h : (PyData.eqv p q && PyData.eqvAll ps' qs') = true := by rw [← h]; rw [PyData.eqvAll]
    rw [Bool.and_eq_true] at h
    rw [hd d List.mem_cons_self e (he e List.mem_cons_self) p q p1 q1 h.1, gsL l (fun x hx => hd x (List.mem_cons_of_mem _ hx)) m (fun x hx => he x (List.mem_cons_of_mem _ hx)) ps' qs' p2 q2 h.2]
theorem toPy_l {l : List D} {p : PyData} (h : toPy (.lst l) = some p) : ∃ ps, p = .list ps ∧ toPyL l = some ps := by
  have h : (match toPyL l with | some m => some (PyData.list m) | none => none) = some p := h
  split at h
  · cases h; exact ⟨_, rfl, by assumption⟩
  · cases h
theorem toPy_t {l : List D} {p : PyData} (h : toPy (.tup l) = some p) : ∃ ps, p = .tuple ps ∧ toPyL l = some ps := by
  have h : (match toPyL l with | some m => some (PyData.tuple m) | none => none) = some p := h
  split at h
  · cases h; exact ⟨_, rfl, by assumption⟩
  · cases h
theorem gs_eq {d : D} (h : Gs d) : ∀ e, Gs e → ∀ p q, toPy d = some p → toPy e = some q → PyData.eqv p q = true → d = e := by
  induction h with
  | non =>
    intro e he p q hp hq hv
    cases hp
    cases he with
    | non => rfl
    | int => cases hq; exact absurd hv (by simp [PyData.eqv])
    | str => cases hq; exact absurd hv (by simp [PyData.eqv])
    | lst => obtain ⟨ps, rfl, _⟩ := toPy_l hq; exact absurd hv (by simp [PyData.eqv])
    | tup => obtain ⟨ps, rfl, _⟩ := toPy_t hq; exact absurd hv (by simp [PyData.eqv])
  | @int i =>
    intro e he p q hp hq hv
    cases hp
    cases he with
    | non => cases hq; exact absurd hv (by simp [PyData.eqv])
    | @int j =>
      cases hq
      rw [PyData.eqv, beq_iff_eq] at hv
      rw [hv]
    | str => cases hq; exact absurd hv (by simp [PyData.eqv])
    | lst => obtain ⟨ps, rfl, _⟩ := toPy_l hq; exact absurd hv (by simp [PyData.eqv])
    | tup => obtain ⟨ps, rfl, _⟩ := toPy_t hq; exact absurd hv (by simp [PyData.eqv])
  | @str x =>
    intro e he p q hp hq hv
    cases hp
    cases he with
    | non => cases hq; exact absurd hv (by simp [PyData.eqv])
    | int => cases hq; exact absurd hv (by simp [PyData.eqv])
    | str =>
      cases hq
      rw [PyData.eqv, beq_iff_eq] at hv
      rw [hv]
    | lst => obtain ⟨ps, rfl, _⟩ := toPy_l hq; exact absurd hv (by simp [PyData.eqv])
    | tup => obtain ⟨ps, rfl, _⟩ := toPy_t hq; exact absurd hv (by simp [PyData.eqv])
  | @lst l hl ih =>
    intro e he p q hp hq hv
    obtain ⟨ps, rfl, hp2⟩ := toPy_l hp
    cases he with
    | non => cases hq; exact absurd hv (by simp [PyData.eqv])
    | int => cases hq; exact absurd hv (by simp [PyData.eqv])
    | str => cases hq; exact absurd hv (by simp [PyData.eqv])
    | lst hm =>
      obtain ⟨qs, rfl, hq2⟩ := toPy_l hq
      rw [PyData.eqv] at hv
      rw [gsL l ih _ hm ps qs hp2 hq2 hv]
    | tup => obtain ⟨ps, rfl, _⟩ := toPy_t hq; exact absurd hv (by simp [PyData.eqv])
  | @tup l hl ih =>
    intro e he p q hp hq hv
    obtain ⟨ps, rfl, hp2⟩ := toPy_t hp
    cases he with
    | non => cases hq; exact absurd hv (by simp [PyData.eqv])
    | int => cases hq; exact absurd hv (by simp [PyData.eqv])
    | str => cases hq; exact absurd hv (by simp [PyData.eqv])
    | lst => obtain ⟨ps, rfl, _⟩ := toPy_l hq; exact absurd hv (by simp [PyData.eqv])
    | tup hm =>
      obtain ⟨qs, rfl, hq2⟩ := toPy_t hq
      rw [PyData.eqv] at hv
      rw [gsL l ih _ hm ps qs hp2 hq2 hv]
theorem eqP_ne {S : Cells} {n m : Nat} {d e : D} (hd : Gd n d) (he : Gd m e) (hn : n ≤ 64) (hm : m ≤ 64) (sd : Gs d) (se : Gs e) (h : d ≠ e) : eqP d e S = some false := by
  obtain ⟨p, ep, gp⟩ := gd_py hd
  obtain ⟨q, eq, gq⟩ := gd_py he
  have vp : vw S d = some p := by unfold vw; rw [resv_flat _ _ _ (gd_flat hd)]; exact ep
  have vq : vw S e = some q := by unfold vw; rw [resv_flat _ _ _ (gd_flat he)]; exact eq
  unfold eqP
  rw [vp, vq]
  simp only
  rw [if_pos ⟨gp.shaped hn, gq.shaped hm⟩]
  cases hv : PyData.eqv p q with
  | false => rfl
  | true => exact absurd (gs_eq sd e se p q ep eq hv) h
theorem dEq_ne {S : Cells} {n m : Nat} {d e : D} (hd : Gd n d) (he : Gd m e) (hn : n ≤ 64) (hm : m ≤ 64) (sd : Gs d) (se : Gs e) (h : d ≠ e) : dEq d e S = some (.bl false) := by
  have hp := eqP_ne (S := S) hd he hn hm sd se h
  unfold dEq
  split
  · rename_i x y
    rw [decide_eq_false fun q => h (by rw [q])]
  · rw [hp]
    rfl
theorem Gs.map {γ : Type} {f : γ → D} {l : List γ} (h : ∀ a ∈ l, Gs (f a)) : ∀ d ∈ l.map f, Gs d := fun d hd => by
  obtain ⟨a, ha, rfl⟩ := List.mem_map.mp hd
  exact h a ha
end DL
end
section
set_option maxHeartbeats 0
namespace MG
section
variable {α : Type} (jo : α → α → Bool) (z : α)
def stp (acc : List (α × α)) (a : α) : List (α × α) := match acc.getLast? with
  | some q => if jo q.2 a = true then acc.dropLast ++ [(q.1, a)] else acc ++ [(a, a)]
  | none => [(a, a)]
/-- the first and the last one of each run -/
def grp (l : List α) : List (α × α) := l.foldl (stp jo) []
def tst (l : List α) (k : Nat) : Bool := k == 0 || !jo (l.getD (k - 1) z) (l.getD k z)
def begs (l : List α) : List Nat := (List.range l.length).filter (tst jo z l)
def prs : List Nat → Nat → List (Nat × Nat)
  | [], _ => []
  | [b], n => [(b, n)]
  | b :: c :: r, n => (b, c) :: prs (c :: r) n
theorem prs_zip : ∀ (bs : List Nat) (n : Nat), bs.zip (bs.drop 1 ++ [n]) = prs bs n
  | [], _ => rfl
  | [b], n => rfl
  | b :: c :: r, n => by
    have ih := prs_zip (c :: r) n
    show (b, c) :: (c :: r).zip (r ++ [n]) = (b, c) :: prs (c :: r) n
    rw [← ih]
    rfl
theorem prs_snoc : ∀ (bs : List Nat) (b n : Nat), prs (bs ++ [b]) n = prs bs b ++ [(b, n)]
  | [], _, _ => rfl
  | [c], b, n => rfl
  | c :: d :: r, b, n => by
    have ih := prs_snoc (d :: r) b n
    show (c, d) :: prs ((d :: r) ++ [b]) n = (c, d) :: prs (d :: r) b ++ [(b, n)]
    rw [ih]
    rfl
theorem prs_mem : ∀ (bs : List Nat) (n : Nat) (q : Nat × Nat), q ∈ prs bs n → q.1 ∈ bs ∧ (q.2 ∈ bs ∨ q.2 = n)
  | [], _, q, h => by simp [prs] at h
  | [b], n, q, h => by
    simp [prs] at h
    subst h
    simp
  | b :: c :: r, n, q, h => by
    rcases List.mem_cons.mp h with e | h
    · subst e
      simp
    · obtain ⟨h1, h2⟩ := prs_mem (c :: r) n q h
      exact ⟨List.mem_cons_of_mem _ h1, h2.imp (List.mem_cons_of_mem _) fun e => e⟩
theorem prs_lt : ∀ (bs : List Nat) (n : Nat), (bs ++ [n]).Pairwise (· < ·) → ∀ q ∈ prs bs n, q.1 < q.2
  | [], _, _, q, h => by simp [prs] at h
  | [b], n, s, q, h => by
    simp [prs] at h
    subst h
    simpa using s
  | b :: c :: r, n, s, q, h => by
    have s : (b :: ((c :: r) ++ [n])).Pairwise (· < ·) := s
    obtain ⟨s1, s2⟩ := List.pairwise_cons.mp s
    rcases List.mem_cons.mp h with e | h
    · subst e
      exact s1 c (by simp)
    · exact prs_lt (c :: r) n s2 q h
def pick (l : List α) (q : Nat × Nat) : α × α := (l.getD q.1 z, l.getD (q.2 - 1) z)
theorem begs_snoc (l : List α) (p : α) : begs jo z (l ++ [p]) = begs jo z l ++ if tst jo z (l ++ [p]) l.length = true then [l.length] else [] := by
  unfold begs
  rw [List.length_append, List.length_singleton, List.range_succ, List.filter_append]
  congr 1
  · apply List.filter_congr
    intro k hk
    rw [List.mem_range] at hk
    unfold tst
    rw [List.getD_eq_getElem?_getD, List.getD_eq_getElem?_getD, List.getD_eq_getElem?_getD, List.getD_eq_getElem?_getD, List.getElem?_append_left (by omega), List.getElem?_append_left (by omega)]
  · by_cases h : tst jo z (l ++ [p]) l.length = true
    · rw [if_pos h, List.filter_cons_of_pos h]
      rfl
    · rw [if_neg h, List.filter_cons_of_neg h]
      rfl
theorem begs_lt {l : List α} {b : Nat} (h : b ∈ begs jo z l) : b < l.length := by
  unfold begs at h
  exact List.mem_range.mp (List.mem_filter.mp h).1
theorem begs_sorted (l : List α) : (begs jo z l ++ [l.length]).Pairwise (· < ·) := by
  rw [List.pairwise_append]
  refine ⟨(List.pairwise_lt_range).filter _, List.pairwise_singleton _ _, fun a ha b hb => ?_⟩
  rw [List.mem_singleton] at hb
  subst hb
  exact begs_lt jo z ha
theorem begs_len (l : List α) : (begs jo z l).length ≤ l.length := by
  unfold begs
  exact Nat.le_trans (List.length_filter_le _ _) (Nat.le_of_eq List.length_range)
theorem begs_ne {l : List α} (h : l ≠ []) : begs jo z l ≠ [] := fun e => by
  have m : 0 ∈ begs jo z l := by
    unfold begs
    rw [List.mem_filter, List.mem_range]
    exact ⟨List.length_pos_iff.mpr h, rfl⟩
  rw [e] at m
  simp at m
theorem pick_app {l : List α} {p : α} {q : Nat × Nat} (h1 : q.1 < l.length) (h2 : q.2 - 1 < l.length) : pick z (l ++ [p]) q = pick z l q := by
  unfold pick
  rw [List.getD_eq_getElem?_getD, List.getD_eq_getElem?_getD, List.getD_eq_getElem?_getD, List.getD_eq_getElem?_getD, List.getElem?_append_left h1, List.getElem?_append_left h2]
theorem getD_last (l : List α) (p : α) : (l ++ [p]).getD l.length z = p := by simp [List.getD_eq_getElem?_getD]
theorem snoc_ind {α : Type} {C : List α → Prop} (h0 : C []) (h1 : ∀ l a, C l → C (l ++ [a])) (l : List α) : C l := by
  have key : ∀ m : List α, C m.reverse := fun m => by
    induction m with
    | nil => exact h0
    | cons a m ih =>
      rw [List.reverse_cons]
      exact h1 _ _ ih
  have := key l.reverse
  rwa [List.reverse_reverse] at this
theorem grp_snoc (l : List α) (a : α) : grp jo (l ++ [a]) = stp jo (grp jo l) a := by
  unfold grp
  rw [List.foldl_append]
  rfl
theorem stp_snoc (A : List (α × α)) (q : α × α) (a : α) : stp jo (A ++ [q]) a = if jo q.2 a = true then A ++ [(q.1, a)] else A ++ [q, (a, a)] := by
  unfold stp
  rw [List.getLast?_concat]
  simp only [List.dropLast_concat, List.append_assoc, List.cons_append, List.nil_append]
theorem begs_grp (l : List α) : (prs (begs jo z l) l.length).map (pick z l) = grp jo l ∧ (∀ q, (grp jo l).getLast? = some q → q.2 = l.getD (l.length - 1) z) := by
  induction l using snoc_ind with
  | h0 => exact ⟨rfl, fun q e => by simp [grp] at e⟩
  | h1 l p ih =>
    obtain ⟨ih, il⟩ := ih
    rw [grp_snoc, begs_snoc, List.length_append, List.length_singleton]
    rcases List.eq_nil_or_concat l with e | ⟨m, x, e⟩
    · subst e
      refine ⟨rfl, fun q e => ?_⟩
      have e : ([(p, p)] : List (α × α)).getLast? = some q := e
      simp at e
      subst e
      rfl
    · have hne : l ≠ [] := by subst e; simp
      have hpos : 0 < l.length := List.length_pos_iff.mpr hne
      have tn : tst jo z (l ++ [p]) l.length = !jo (l.getD (l.length - 1) z) p := by
        unfold tst
        rw [getD_last, List.getD_eq_getElem?_getD, List.getElem?_append_left (by omega), ← List.getD_eq_getElem?_getD]
        have : (l.length == 0) = false := by simp; exact hne
        rw [this]
        rfl
      obtain ⟨bs, b, eb⟩ := (List.eq_nil_or_concat (begs jo z l)).resolve_left (begs_ne jo z hne)
      rw [List.concat_eq_append] at eb
      have inb : ∀ c ∈ bs ++ [b], c < l.length := fun c hc => begs_lt jo z (by rw [eb]; exact hc)
      have lt : grp jo l = (prs bs b).map (pick z l) ++ [(l.getD b z, l.getD (l.length - 1) z)] := by
        rw [← ih, eb, prs_snoc, List.map_append]
        rfl
      have old : (prs bs b).map (pick z (l ++ [p])) = (prs bs b).map (pick z l) := by
        apply List.map_congr_left
        intro q hq
        obtain ⟨h1, h2⟩ := prs_mem _ _ _ hq
        have h1' := inb q.1 (List.mem_append_left _ h1)
        refine pick_app z h1' ?_
        rcases h2 with h2 | h2
        · have := inb q.2 (List.mem_append_left _ h2)
          omega
        · have := inb b (by simp)
          omega
      have hb := inb b (by simp)
      have gb : (l ++ [p]).getD b z = l.getD b z := by
        rw [List.getD_eq_getElem?_getD, List.getElem?_append_left hb, ← List.getD_eq_getElem?_getD]
      by_cases ht : jo (l.getD (l.length - 1) z) p = true
      · have tf : ¬ tst jo z (l ++ [p]) l.length = true := by rw [tn, ht]; simp
        rw [if_neg tf, List.append_nil, eb, prs_snoc, List.map_append, old, lt, stp_snoc, if_pos ht]
        refine ⟨?_, fun q e => ?_⟩
        · congr 1
          show [pick z (l ++ [p]) (b, l.length + 1)] = _
          unfold pick
          simp only [Nat.add_sub_cancel]
          rw [getD_last, gb]
        · rw [List.getLast?_concat] at e
          cases e
          simp only [Nat.add_sub_cancel]
          rw [getD_last]
      · have tt : tst jo z (l ++ [p]) l.length = true := by rw [tn]; simpa using ht
        rw [if_pos tt, prs_snoc, List.map_append, eb, prs_snoc, List.map_append, old, lt, stp_snoc, if_neg ht]
        refine ⟨?_, fun q e => ?_⟩
        · have e1 : pick z (l ++ [p]) (b, l.length) = (l.getD b z, l.getD (l.length - 1) z) := pick_app z hb (by show l.length - 1 < l.length; omega)
          have e2 : pick z (l ++ [p]) (l.length, l.length + 1) = (p, p) := by
            unfold pick
            simp only [Nat.add_sub_cancel]
            rw [getD_last]
          simp only [List.map_cons, List.map_nil, e1, e2, List.append_assoc]
          rfl
        · rw [show ∀ (A : List (α × α)) (u v : α × α), A ++ [u, v] = (A ++ [u]) ++ [v] from fun A u v => by simp, List.getLast?_concat] at e
          cases e
          simp only [Nat.add_sub_cancel]
          rw [getD_last]
end
end MG
end
section
set_option maxHeartbeats 1000000
namespace MP
abbrev P := Int × Int
abbrev T := Int × Int × Int
def inT (p : T) (d : Int) : Bool := decide (p.1 ≤ d) && decide (d ≤ p.2.1)
theorem inT_iff {p : T} {d : Int} : inT p d = true ↔ p.1 ≤ d ∧ d ≤ p.2.1 := by
  unfold inT
  rw [Bool.and_eq_true, decide_eq_true_eq, decide_eq_true_eq]
/-- how often a distance occurs -/
def cnt (l : List T) (d : Int) : Int := (l.map fun p => if inT p d = true then p.2.2 else 0).sum
theorem cnt_cons (p : T) (l : List T) (d : Int) : cnt (p :: l) d = (if inT p d = true then p.2.2 else 0) + cnt l d := rfl
theorem cnt_app (l m : List T) (d : Int) : cnt (l ++ m) d = cnt l d + cnt m d := by
  induction l with
  | nil => simp [cnt]
  | cons p l ih => rw [List.cons_append, cnt_cons, cnt_cons, ih]; omega
theorem cnt_nil (d : Int) : cnt [] d = 0 := rfl
theorem cnt_nn {l : List T} (h : ∀ p ∈ l, 0 ≤ p.2.2) (d : Int) : 0 ≤ cnt l d := by
  induction l with
  | nil => exact Int.le_refl _
  | cons p l ih =>
    have := ih fun q hq => h q (List.mem_cons_of_mem _ hq)
    have := h p List.mem_cons_self
    rw [cnt_cons]
    split <;> omega
def evs (l : List T) : List P := l.map (fun p => (p.1, p.2.2)) ++ l.map (fun p => (p.2.1 + 1, 0 - p.2.2))
def pre (es : List P) (d : Int) : Int := (es.map fun e => if e.1 ≤ d then e.2 else 0).sum
theorem pre_cons (e : P) (es : List P) (d : Int) : pre (e :: es) d = (if e.1 ≤ d then e.2 else 0) + pre es d := rfl
theorem pre_app (a b : List P) (d : Int) : pre (a ++ b) d = pre a d + pre b d := by
  unfold pre
  rw [List.map_append, List.sum_append]
theorem pre_perm {a b : List P} (h : a.Perm b) (d : Int) : pre a d = pre b d := by
  induction h with
  | nil => rfl
  | cons x _ ih => rw [pre_cons, pre_cons, ih]
  | swap x y l => rw [pre_cons, pre_cons, pre_cons, pre_cons]; omega
  | trans _ _ h1 h2 => rw [h1, h2]
theorem pre_evs {l : List T} (h : ∀ p ∈ l, p.1 ≤ p.2.1) (d : Int) : pre (evs l) d = cnt l d := by
  unfold evs
  rw [pre_app]
  induction l with
  | nil => rfl
  | cons p l ih =>
    have ih := ih fun q hq => h q (List.mem_cons_of_mem _ hq)
    have hp := h p List.mem_cons_self
    rw [List.map_cons, List.map_cons, pre_cons, pre_cons, cnt_cons]
    unfold inT
    simp only [Bool.and_eq_true, decide_eq_true_eq]
    by_cases h1 : p.1 ≤ d <;> by_cases h2 : d ≤ p.2.1 <;> simp only [h1, h2, if_true, if_false, and_true, and_false, and_self]
    · rw [if_neg (by omega)]; omega
    · rw [if_pos (by omega)]; omega
    · rw [if_neg (by omega)]; omega
    · omega
def rst (R : List T × Int × Int) (e : P) : List T × Int × Int := if e.1 > R.2.2 then (R.1 ++ [(R.2.2, e.1 - 1, R.2.1)], R.2.1 + e.2, e.1) else (R.1, R.2.1 + e.2, R.2.2)
def rows (es : List P) : List T := (es.foldl rst ([], 0, 0)).1
def Ctg (a : Int) : List T → Int → Prop
  | [], b => a = b
  | r :: l, b => r.1 = a ∧ r.1 ≤ r.2.1 ∧ Ctg (r.2.1 + 1) l b
theorem Ctg.snoc : ∀ {a : Int} {l : List T} {b : Int} {r : T}, Ctg a l b → r.1 = b → r.1 ≤ r.2.1 → Ctg a (l ++ [r]) (r.2.1 + 1)
  | _, [], _, _, h, h1, h2 => ⟨h1.trans (Eq.symm h), h2, rfl⟩
  | _, _ :: _, _, _, h, h1, h2 => ⟨h.1, h.2.1, h.2.2.snoc h1 h2⟩
theorem rows_ok (f : Int → Int) : ∀ (B A : List P) (R : List T) (o b : Int), (∀ d, pre (A ++ B) d = f d) → (A ++ B).Pairwise (fun x y => x.1 ≤ y.1) → (∀ e ∈ A, e.1 ≤ b) → (∀ e ∈ B, b ≤ e.1) → o = (A.map (·.2)).sum →
    Ctg 0 R b → (∀ r ∈ R, ∀ d, inT r d = true → f d = r.2.2) →
    ∃ R' M, B.foldl rst (R, o, b) = (R', ((A ++ B).map (·.2)).sum, M) ∧ Ctg 0 R' M ∧ (∀ r ∈ R', ∀ d, inT r d = true → f d = r.2.2) ∧ (∀ e ∈ A ++ B, e.1 ≤ M)
  | [], A, R, o, b, _, _, ha, _, ho, hc, hr => ⟨R, b, by rw [ho, List.append_nil]; rfl, hc, hr, by rw [List.append_nil]; exact ha⟩
  | e :: B, A, R, o, b, hf, hs, ha, hb, ho, hc, hr => by
    have e1 : A ++ e :: B = (A ++ [e]) ++ B := by simp
    have hbe := hb e List.mem_cons_self
    have sB : ∀ x ∈ B, e.1 ≤ x.1 := fun x hx => (List.pairwise_cons.mp (List.pairwise_append.mp hs).2.1).1 x hx
    have ho' : o + e.2 = ((A ++ [e]).map (·.2)).sum := by
      rw [List.map_append, List.sum_append, ho]
      simp
    have hsum : ∀ d, b ≤ d → pre A d = o := fun d hd => by
      rw [ho]
      clear hf hs ho ho' e1
      induction A with
      | nil => rfl
      | cons x A ih =>
        have := ha x List.mem_cons_self
        rw [pre_cons, if_pos (by omega), ih fun y hy => ha y (List.mem_cons_of_mem _ hy)]
        simp
    have hz : ∀ d, d < e.1 → pre (e :: B) d = 0 := fun d hd => by
      have key : ∀ L : List P, (∀ x ∈ L, e.1 ≤ x.1) → pre L d = 0 := fun L hL => by
        induction L with
        | nil => rfl
        | cons x L ih =>
          have := hL x List.mem_cons_self
          rw [pre_cons, if_neg (by omega), ih fun y hy => hL y (List.mem_cons_of_mem _ hy)]
          rfl
      exact key _ fun x hx => by
        rcases List.mem_cons.mp hx with h | h
        · rw [h]; exact Int.le_refl _
        · exact sB x h
    rw [List.foldl_cons, e1]
    unfold rst
    simp only
    by_cases hg : e.1 > b
    · rw [if_pos hg]
      refine rows_ok f B (A ++ [e]) _ _ _ (by rw [← e1]; exact hf) (by rw [← e1]; exact hs) (fun x hx => ?_) sB ho' (by have := hc.snoc (r := (b, e.1 - 1, o)) rfl (by show b ≤ e.1 - 1; omega); simpa using this) (fun r hr' d hd => ?_)
      · rcases List.mem_append.mp hx with h | h
        · have := ha x h; omega
        · rw [List.mem_singleton] at h; rw [h]; exact Int.le_refl _
      · rcases List.mem_append.mp hr' with h | h
        · exact hr r h d hd
        · rw [List.mem_singleton] at h
          subst h
          unfold inT at hd
          simp only [Bool.and_eq_true, decide_eq_true_eq] at hd
          rw [← hf d, pre_app, hsum d hd.1, hz d (by omega)]
          simp
    · rw [if_neg hg]
      refine rows_ok f B (A ++ [e]) _ _ _ (by rw [← e1]; exact hf) (by rw [← e1]; exact hs) (fun x hx => ?_) (fun x hx => hb x (List.mem_cons_of_mem _ hx)) ho' hc hr
      rcases List.mem_append.mp hx with h | h
      · exact ha x h
      · rw [List.mem_singleton] at h; rw [h]; omega
def same (r s : T) : Bool := decide (s.2.2 = r.2.2)
def mk (q : T × T) : T := (q.1.1, q.2.2.1, q.1.2.2)
def jn (l : List T) : List T := (MG.grp same l).map mk
/-- contiguous, neighbours unlike -/
def Cg (a : Int) : List T → Int → Prop
  | [], b => a = b
  | r :: l, b => r.1 = a ∧ r.1 ≤ r.2.1 ∧ (∀ s, l.head? = some s → s.2.2 ≠ r.2.2) ∧ Cg (r.2.1 + 1) l b
theorem Cg.snoc : ∀ {a : Int} {l : List T} {b : Int} {r : T}, Cg a l b → r.1 = b → r.1 ≤ r.2.1 → (∀ s, l.getLast? = some s → r.2.2 ≠ s.2.2) → Cg a (l ++ [r]) (r.2.1 + 1)
  | _, [], _, _, h, h1, h2, _ => ⟨h1.trans (Eq.symm h), h2, fun s e => by simp at e, rfl⟩
  | _, q :: l, _, r, h, h1, h2, h3 => by
    refine ⟨h.1, h.2.1, fun s e => ?_, h.2.2.2.snoc h1 h2 fun s e => h3 s ?_⟩
    · cases l with
      | nil =>
        have : r = s := by simpa using e
        subst this
        exact h3 q (by simp)
      | cons x l => exact h.2.2.1 s (by simpa using e)
    · cases l with
      | nil => simp at e
      | cons x l => rw [List.getLast?_cons_cons]; exact e
theorem Cg.unsnoc : ∀ {a : Int} {l : List T} {b : Int} {r : T}, Cg a (l ++ [r]) b → Cg a l r.1 ∧ r.1 ≤ r.2.1 ∧ b = r.2.1 + 1 ∧ (∀ s, l.getLast? = some s → r.2.2 ≠ s.2.2)
  | _, [], _, _, h => ⟨Eq.symm h.1, h.2.1, Eq.symm h.2.2.2, fun s e => by simp at e⟩
  | _, q :: l, _, r, h => by
    obtain ⟨i1, i2, i3, i4⟩ := Cg.unsnoc h.2.2.2
    refine ⟨⟨h.1, h.2.1, fun s e => h.2.2.1 s ?_, i1⟩, i2, i3, fun s e => ?_⟩
    · cases l with
      | nil => simp at e
      | cons x l => simpa using e
    · cases l with
      | nil =>
        have : q = s := by simpa using e
        subst this
        exact h.2.2.1 r (by simp)
      | cons x l => exact i4 s (by rw [List.getLast?_cons_cons] at e; exact e)
theorem ctg_unsnoc : ∀ {a : Int} {l : List T} {b : Int} {r : T}, Ctg a (l ++ [r]) b → Ctg a l r.1 ∧ r.1 ≤ r.2.1 ∧ b = r.2.1 + 1
  | _, [], _, _, h => ⟨Eq.symm h.1, h.2.1, Eq.symm h.2.2⟩
  | _, q :: l, _, r, h => by
    obtain ⟨i1, i2, i3⟩ := ctg_unsnoc h.2.2
    exact ⟨⟨h.1, h.2.1, i1⟩, i2, i3⟩
theorem jn_ok (f : Int → Int) (l : List T) : ∀ b, Ctg 0 l b → (∀ r ∈ l, ∀ d, inT r d = true → f d = r.2.2) → Cg 0 (jn l) b ∧ (∀ r ∈ jn l, ∀ d, inT r d = true → f d = r.2.2) ∧ (∀ q, (MG.grp same l).getLast? = some q → q.1.2.2 = q.2.2.2 ∧ ∀ r, l.getLast? = some r → q.2 = r) := by
  induction l using MG.snoc_ind with
  | h0 => exact fun b h _ => ⟨h, fun r hr => by simp [jn, MG.grp] at hr, fun q e => by simp [MG.grp] at e⟩
  | h1 l r ih =>
    intro b hc hf
    obtain ⟨c1, c2, c3⟩ := ctg_unsnoc hc
    obtain ⟨i1, i2, i3⟩ := ih r.1 c1 fun q hq => hf q (List.mem_append_left _ hq)
    have hr := hf r (by simp)
    have last : ∀ (q : T × T) (A : List (T × T)), q.1.2.2 = q.2.2.2 → q.2 = r → ∀ q', (A ++ [q]).getLast? = some q' → q'.1.2.2 = q'.2.2.2 ∧ ∀ r', (l ++ [r]).getLast? = some r' → q'.2 = r' := fun q A h1 h2 q' e => by
      rw [List.getLast?_concat] at e
      cases e
      refine ⟨h1, fun r' e => ?_⟩
      rw [List.getLast?_concat] at e
      cases e
      exact h2
    unfold jn at i1 i2 ⊢
    rw [MG.grp_snoc]
    rcases List.eq_nil_or_concat (MG.grp same l) with e | ⟨A, q, e⟩
    · rw [e] at i1 i2
      have hg : MG.stp same (MG.grp same l) r = [] ++ [(r, r)] := by rw [e]; rfl
      rw [hg]
      have i1 : (0 : Int) = r.1 := i1
      exact ⟨⟨Eq.symm i1, c2, fun s e => by simp at e, Eq.symm c3⟩, fun s hs d hd => by
        have : s = mk (r, r) := by simpa using hs
        subst this
        exact hr d hd, last _ _ rfl rfl⟩
    · rw [List.concat_eq_append] at e
      have hq := i3 q (by rw [e, List.getLast?_concat])
      rw [e] at i1 i2
      rw [List.map_append] at i1 i2
      obtain ⟨u1, u2, u3, u4⟩ := i1.unsnoc
      rw [e, MG.stp_snoc]
      have hj : same q.2 r = decide (r.2.2 = q.2.2.2) := rfl
      by_cases hs : r.2.2 = q.2.2.2
      · rw [hj, if_pos (decide_eq_true hs), List.map_append]
        refine ⟨?_, fun s hs' d hd => ?_, last _ _ (by show q.1.2.2 = r.2.2; rw [hs]; exact hq.1) rfl⟩
        · rw [c3]
          refine Cg.snoc (r := mk (q.1, r)) u1 rfl ?_ u4
          show q.1.1 ≤ r.2.1
          have : q.1.1 ≤ q.2.2.1 := u2
          have u3 : r.1 = q.2.2.1 + 1 := u3
          omega
        · rcases List.mem_append.mp hs' with h | h
          · exact i2 s (List.mem_append_left _ h) d hd
          · have : s = mk (q.1, r) := by simpa using h
            subst this
            have hd : q.1.1 ≤ d ∧ d ≤ r.2.1 := inT_iff.mp hd
            have u3 : r.1 = q.2.2.1 + 1 := u3
            by_cases hd2 : d ≤ q.2.2.1
            · exact i2 (mk q) (by simp) d (inT_iff.mpr ⟨hd.1, hd2⟩)
            · show f d = q.1.2.2
              rw [hq.1, ← hs]
              exact hr d (inT_iff.mpr ⟨by omega, hd.2⟩)
      · rw [hj, if_neg (by simp [hs]), show A ++ [q, (r, r)] = (A ++ [q]) ++ [(r, r)] by simp, List.map_append, List.map_append]
        refine ⟨?_, fun s hs' d hd => ?_, last _ _ rfl rfl⟩
        · rw [c3]
          refine Cg.snoc (r := mk (r, r)) (b := r.1) i1 rfl c2 fun s e => ?_
          rw [List.map_singleton, List.getLast?_concat] at e
          cases e
          show r.2.2 ≠ q.1.2.2
          rw [hq.1]
          exact hs
        · rcases List.mem_append.mp hs' with h | h
          · exact i2 s (by simpa using h) d hd
          · have : s = mk (r, r) := by simpa using h
            subst this
            exact hr d hd
def Canon (lo : Int) : List T → Prop
  | [] => True
  | r :: l => lo ≤ r.1 ∧ r.1 ≤ r.2.1 ∧ 0 < r.2.2 ∧ (∀ s, l.head? = some s → s.1 = r.2.1 + 1 → s.2.2 ≠ r.2.2) ∧ Canon (r.2.1 + 1) l
/-- ascending pieces -/
def Asc (lo : Int) : List T → Prop
  | [] => True
  | r :: l => lo ≤ r.1 ∧ r.1 ≤ r.2.1 ∧ 0 < r.2.2 ∧ Asc (r.2.1 + 1) l
theorem Canon.asc : ∀ {lo : Int} {l : List T}, Canon lo l → Asc lo l
  | _, [], _ => trivial
  | _, _ :: _, h => ⟨h.1, h.2.1, h.2.2.1, h.2.2.2.2.asc⟩
theorem Asc.mono {lo lo' : Int} (h : lo' ≤ lo) : ∀ {l : List T}, Asc lo l → Asc lo' l
  | [], _ => trivial
  | _ :: _, q => ⟨Int.le_trans h q.1, q.2⟩
theorem Canon.mono {lo lo' : Int} (h : lo' ≤ lo) : ∀ {l : List T}, Canon lo l → Canon lo' l
  | [], _ => trivial
  | _ :: _, q => ⟨Int.le_trans h q.1, q.2⟩
theorem Asc.mem : ∀ {lo : Int} {l : List T}, Asc lo l → ∀ p ∈ l, lo ≤ p.1 ∧ p.1 ≤ p.2.1 ∧ 0 < p.2.2
  | _, [], _, p, h => by simp at h
  | lo, r :: l, q, p, h => by
    rcases List.mem_cons.mp h with e | h
    · subst e; exact ⟨q.1, q.2.1, q.2.2.1⟩
    · have := q.2.2.2.mem p h
      have := q.1
      have := q.2.1
      omega
theorem Asc.low {lo : Int} {l : List T} (h : Asc lo l) {d : Int} (hd : d < lo) : cnt l d = 0 := by
  induction l generalizing lo with
  | nil => rfl
  | cons r l ih =>
    have := h.1
    have := h.2.1
    rw [cnt_cons, ih h.2.2.2 (by omega)]
    unfold inT
    rw [if_neg (by simp only [Bool.and_eq_true, decide_eq_true_eq]; omega)]
    rfl
theorem cg_canon : ∀ {a : Int} {l : List T} {b : Int}, Cg a l b → (∀ r ∈ l, 0 ≤ r.2.2) → Canon a (l.filter fun r => decide (0 < r.2.2)) ∧ (∀ s, (l.filter fun r => decide (0 < r.2.2)).head? = some s → s.1 = a → l.head? = some s)
  | _, [], _, _, _ => ⟨trivial, fun s e => by simp at e⟩
  | a, r :: l, b, h, hp => by
    obtain ⟨i1, i2⟩ := cg_canon h.2.2.2 fun q hq => hp q (List.mem_cons_of_mem _ hq)
    by_cases h0 : 0 < r.2.2
    · rw [List.filter_cons_of_pos (by simpa using h0)]
      refine ⟨⟨Int.le_of_eq (Eq.symm h.1), h.2.1, h0, fun s e es => h.2.2.1 s (i2 s e es), i1⟩, fun s e _ => by simpa using e⟩
    · rw [List.filter_cons_of_neg (by simpa using h0)]
      have h1 := h.1
      have h2 := h.2.1
      refine ⟨i1.mono (by omega), fun s e es => ?_⟩
      cases q : l.filter fun r => decide (0 < r.2.2) with
      | nil => rw [q] at e; simp at e
      | cons x m =>
        rw [q] at e i1
        have : x = s := by simpa using e
        subst this
        have := i1.1
        omega
theorem cg_le : ∀ {a : Int} {l : List T} {b : Int}, Cg a l b → a ≤ b
  | _, [], _, h => Int.le_of_eq h
  | _, r :: l, _, h => by
    have := cg_le h.2.2.2
    have := h.1
    have := h.2.1
    omega
theorem cg_cnt (f : Int → Int) : ∀ {a : Int} {l : List T} {b : Int}, Cg a l b → (∀ r ∈ l, ∀ d, inT r d = true → f d = r.2.2) → ∀ d, (a ≤ d → d < b → cnt l d = f d) ∧ (d < a ∨ b ≤ d → cnt l d = 0)
  | _, [], _, h, _, d => ⟨fun h1 h2 => by have h : _ = _ := h; omega, fun _ => rfl⟩
  | a, r :: l, b, h, hf, d => by
    obtain ⟨i1, i2⟩ := cg_cnt f h.2.2.2 (fun q hq => hf q (List.mem_cons_of_mem _ hq)) d
    have h1 := h.1
    have h2 := h.2.1
    have h3 := cg_le h.2.2.2
    rw [cnt_cons]
    by_cases hd : inT r d = true
    · rw [if_pos hd]
      have e := hf r List.mem_cons_self d hd
      unfold inT at hd
      simp only [Bool.and_eq_true, decide_eq_true_eq] at hd
      rw [i2 (by omega), e]
      exact ⟨fun _ _ => by omega, fun _ => by omega⟩
    · rw [if_neg hd]
      unfold inT at hd
      simp only [Bool.and_eq_true, decide_eq_true_eq] at hd
      exact ⟨fun _ _ => by rw [i1 (by omega) (by omega)]; omega, fun _ => by rw [i2 (by omega)]; rfl⟩
theorem cnt_filter {l : List T} (h : ∀ r ∈ l, 0 ≤ r.2.2) (d : Int) : cnt (l.filter fun r => decide (0 < r.2.2)) d = cnt l d := by
  induction l with
  | nil => rfl
  | cons r l ih =>
    have ih := ih fun q hq => h q (List.mem_cons_of_mem _ hq)
    have := h r List.mem_cons_self
    by_cases h0 : 0 < r.2.2
    · rw [List.filter_cons_of_pos (by simpa using h0), cnt_cons, cnt_cons, ih]
    · rw [List.filter_cons_of_neg (by simpa using h0), cnt_cons, ih]
      have : r.2.2 = 0 := by omega
      rw [this]
      split <;> omega
/-- the fewest pieces -/
def fin (l : List T) : List T := (jn (rows (DL.sortP (evs l)))).filter fun r => decide (0 < r.2.2)
theorem leP_iff (a b : P) : DL.leP a b = true ↔ a.1 < b.1 ∨ (a.1 = b.1 ∧ a.2 ≤ b.2) := by
  unfold DL.leP SrtO.lexB
  split
  · simp only [Bool.not_eq_true', decide_eq_false_iff_not]; omega
  · simp only [Bool.not_eq_true', decide_eq_false_iff_not]; omega
theorem leP_trans : ∀ a b c : P, DL.leP a b = true → DL.leP b c = true → DL.leP a c = true := fun a b c h1 h2 => by
  rw [leP_iff] at *
  omega
theorem leP_total : ∀ a b : P, (DL.leP a b || DL.leP b a) = true := fun a b => by
  rw [Bool.or_eq_true, leP_iff, leP_iff]
  omega
theorem sortP_perm (l : List P) : (DL.sortP l).Perm l := List.mergeSort_perm _ _
theorem sortP_le (l : List P) : (DL.sortP l).Pairwise (fun x y => x.1 ≤ y.1) := by
  have := List.pairwise_mergeSort leP_trans leP_total l
  exact this.imp fun {x y} h => by
    rw [leP_iff] at h
    omega
theorem evs_sum (l : List T) : ((evs l).map (·.2)).sum = 0 := by
  unfold evs
  rw [List.map_append, List.sum_append]
  induction l with
  | nil => rfl
  | cons p l ih =>
    simp only [List.map_cons, List.sum_cons] at *
    omega
theorem perm_sum {a b : List P} (h : a.Perm b) : (a.map (·.2)).sum = (b.map (·.2)).sum := by
  induction h with
  | nil => rfl
  | cons x _ ih => rw [List.map_cons, List.map_cons, List.sum_cons, List.sum_cons, ih]
  | swap x y l => simp only [List.map_cons, List.sum_cons]; omega
  | trans _ _ h1 h2 => rw [h1, h2]
theorem fin_ok {l : List T} (h : ∀ p ∈ l, 1 ≤ p.1 ∧ p.1 ≤ p.2.1 ∧ 0 ≤ p.2.2) : Canon 1 (fin l) ∧ ∀ d, cnt (fin l) d = cnt l d := by
  have hperm := sortP_perm (evs l)
  have hf : ∀ d, pre (DL.sortP (evs l)) d = cnt l d := fun d => by rw [pre_perm hperm, pre_evs fun p hp => (h p hp).2.1]
  have hpos : ∀ e ∈ DL.sortP (evs l), 1 ≤ e.1 := fun e he => by
    have he := hperm.mem_iff.mp he
    unfold evs at he
    rcases List.mem_append.mp he with he | he <;> obtain ⟨p, hp, rfl⟩ := List.mem_map.mp he <;> have := h p hp <;> simp only <;> omega
  obtain ⟨R, M, e1, e2, e3, e4⟩ := rows_ok (cnt l) (DL.sortP (evs l)) [] [] 0 0 hf (sortP_le _) (fun e he => by simp at he) (fun e he => by have := hpos e he; omega) rfl rfl (fun r hr => by simp at hr)
  have er : rows (DL.sortP (evs l)) = R := by unfold rows; rw [e1]
  obtain ⟨j1, j2, _⟩ := jn_ok (cnt l) R M e2 e3
  have nn : ∀ r ∈ jn R, 0 ≤ r.2.2 := fun r hr => by
    have hle : r.1 ≤ r.2.1 := by
      have key : ∀ {a : Int} {L : List T} {b : Int}, Cg a L b → ∀ r ∈ L, r.1 ≤ r.2.1 := by
        intro a L
        induction L generalizing a with
        | nil => intro b _ r hr; simp at hr
        | cons x L ih =>
          intro b hc r hr
          rcases List.mem_cons.mp hr with e | hr
          · subst e; exact hc.2.1
          · exact ih hc.2.2.2 r hr
      exact key j1 r hr
    rw [← j2 r hr r.1 (by unfold inT; simp only [Bool.and_eq_true, decide_eq_true_eq]; omega)]
    exact cnt_nn (fun p hp => (h p hp).2.2) _
  obtain ⟨c1, c2⟩ := cg_canon j1 nn
  have cz : ∀ d, cnt (fin l) d = cnt l d := fun d => by
    unfold fin
    rw [er, cnt_filter nn]
    obtain ⟨g1, g2⟩ := cg_cnt (cnt l) j1 j2 d
    by_cases hd : 0 ≤ d ∧ d < M
    · exact g1 hd.1 hd.2
    · rw [g2 (by omega)]
      have hz : cnt l d = 0 := by
        rw [← hf d]
        by_cases hd0 : d < 0
        · have key : ∀ L : List P, (∀ x ∈ L, 1 ≤ x.1) → pre L d = 0 := fun L hL => by
            induction L with
            | nil => rfl
            | cons x L ih =>
              have := hL x List.mem_cons_self
              rw [pre_cons, if_neg (by omega), ih fun y hy => hL y (List.mem_cons_of_mem _ hy)]
              rfl
          exact key _ hpos
        · have key : ∀ L : List P, (∀ x ∈ L, x.1 ≤ M) → pre L d = (L.map (·.2)).sum := fun L hL => by
            induction L with
            | nil => rfl
            | cons x L ih =>
              have := hL x List.mem_cons_self
              rw [pre_cons, if_pos (by omega), ih fun y hy => hL y (List.mem_cons_of_mem _ hy)]
              rfl
          rw [key (DL.sortP (evs l)) fun x hx => e4 x hx, perm_sum hperm, evs_sum]
      rw [hz]
  refine ⟨?_, cz⟩
  have hc0 : Canon 0 (fin l) := by unfold fin; rw [er]; exact c1
  cases hfin : fin l with
  | nil => trivial
  | cons r m =>
    rw [hfin] at hc0
    refine ⟨?_, hc0.2⟩
    have h0 := hc0.1
    by_cases h1 : 1 ≤ r.1
    · exact h1
    · exfalso
      have e0 : r.1 = 0 := by omega
      have := cz 0
      rw [hfin, cnt_cons, hc0.2.2.2.2.asc.low (by have := hc0.2.1; omega), if_pos (by unfold inT; simp only [Bool.and_eq_true, decide_eq_true_eq]; have := hc0.2.1; omega)] at this
      have z : cnt l 0 = 0 := by
        have key : ∀ L : List T, (∀ p ∈ L, 1 ≤ p.1) → cnt L 0 = 0 := fun L hL => by
          induction L with
          | nil => rfl
          | cons x L ih =>
            have := hL x List.mem_cons_self
            rw [cnt_cons, ih fun y hy => hL y (List.mem_cons_of_mem _ hy)]
            unfold inT
            rw [if_neg (by simp only [Bool.and_eq_true, decide_eq_true_eq]; omega)]
            rfl
        exact key l fun p hp => (h p hp).1
      have := hc0.2.2.1
      omega
theorem Canon.cnt_low {lo : Int} {r : T} {l : List T} (h : Canon lo (r :: l)) : (∀ d, d < r.1 → cnt (r :: l) d = 0) ∧ (∀ d, r.1 ≤ d → d ≤ r.2.1 → cnt (r :: l) d = r.2.2) ∧ (∀ d, r.2.1 < d → cnt (r :: l) d = cnt l d) := by
  have ha := h.2.2.2.2.asc
  have hle := h.2.1
  refine ⟨fun d hd => ?_, fun d h1 h2 => ?_, fun d hd => ?_⟩
  · rw [cnt_cons, ha.low (by omega)]
    unfold inT
    rw [if_neg (by simp only [Bool.and_eq_true, decide_eq_true_eq]; omega)]
    rfl
  · rw [cnt_cons, ha.low (by omega)]
    unfold inT
    rw [if_pos (by simp only [Bool.and_eq_true, decide_eq_true_eq]; omega)]
    omega
  · rw [cnt_cons]
    unfold inT
    rw [if_neg (by simp only [Bool.and_eq_true, decide_eq_true_eq]; omega)]
    omega
/-- behind the first piece something else -/
theorem Canon.next {lo : Int} {r : T} {l : List T} (h : Canon lo (r :: l)) : cnt (r :: l) (r.2.1 + 1) ≠ r.2.2 := by
  have hp := h.2.2.1
  rw [h.cnt_low.2.2 _ (by omega)]
  cases l with
  | nil => rw [cnt_nil]; omega
  | cons s m =>
    have h2 := h.2.2.2.2
    by_cases e : s.1 = r.2.1 + 1
    · rw [h2.cnt_low.2.1 _ (by omega) (by have := h2.2.1; omega)]
      exact h.2.2.2.1 s rfl e
    · rw [h2.cnt_low.1 _ (by have := h2.1; omega)]
      omega
theorem canon_uniq : ∀ {lo lo' : Int} {l m : List T}, Canon lo l → Canon lo' m → (∀ d, cnt l d = cnt m d) → l = m
  | _, _, [], [], _, _, _ => rfl
  | _, _, [], s :: m, _, h2, e => by
    have := e s.1
    rw [cnt_nil, h2.cnt_low.2.1 _ (Int.le_refl _) h2.2.1] at this
    have := h2.2.2.1
    omega
  | _, _, r :: l, [], h1, _, e => by
    have := e r.1
    rw [cnt_nil, h1.cnt_low.2.1 _ (Int.le_refl _) h1.2.1] at this
    have := h1.2.2.1
    omega
  | _, _, r :: l, s :: m, h1, h2, e => by
    have p1 := h1.2.2.1
    have p2 := h2.2.2.1
    have l1 := h1.2.1
    have l2 := h2.2.1
    have e1 : r.1 = s.1 := by
      rcases Int.lt_trichotomy r.1 s.1 with h | h | h
      · have := e r.1
        rw [h1.cnt_low.2.1 _ (Int.le_refl _) l1, h2.cnt_low.1 _ h] at this
        omega
      · exact h
      · have := e s.1
        rw [h2.cnt_low.2.1 _ (Int.le_refl _) l2, h1.cnt_low.1 _ h] at this
        omega
    have e2 : r.2.2 = s.2.2 := by
      have := e r.1
      rw [h1.cnt_low.2.1 _ (Int.le_refl _) l1, h2.cnt_low.2.1 _ (by omega) (by omega)] at this
      exact this
    have e3 : r.2.1 = s.2.1 := by
      rcases Int.lt_trichotomy r.2.1 s.2.1 with h | h | h
      · have := e (r.2.1 + 1)
        rw [h2.cnt_low.2.1 _ (by omega) (by omega), ← e2] at this
        exact absurd this h1.next
      · exact h
      · have := e (s.2.1 + 1)
        rw [h1.cnt_low.2.1 _ (by omega) (by omega), e2] at this
        exact absurd this.symm h2.next
    have er : r = s := by
      obtain ⟨a, b, c⟩ := r
      obtain ⟨a', b', c'⟩ := s
      simp only at e1 e2 e3
      rw [e1, e2, e3]
    subst er
    rw [canon_uniq h1.2.2.2.2 h2.2.2.2.2 fun d => by
      have := e d
      rw [cnt_cons, cnt_cons] at this
      omega]
theorem fin_canon {l : List T} (h : Canon 1 l) : fin l = l := by
  obtain ⟨a, b⟩ := fin_ok (l := l) fun p hp => by have := h.asc.mem p hp; omega
  exact canon_uniq a h b
def mx (a b : Int) : Int := if b > a then b else a
def byd (l : List T) (s : Int) : Int := (l.map fun p => p.2.2 * mx 0 (p.2.1 - mx (p.1 - 1) s)).sum
theorem byd_cons (p : T) (l : List T) (s : Int) : byd (p :: l) s = p.2.2 * mx 0 (p.2.1 - mx (p.1 - 1) s) + byd l s := rfl
theorem byd_step {l : List T} (h : ∀ p ∈ l, p.1 ≤ p.2.1) (s : Int) : byd l s - byd l (s + 1) = cnt l (s + 1) := by
  induction l with
  | nil => rfl
  | cons p l ih =>
    have ih := ih fun q hq => h q (List.mem_cons_of_mem _ hq)
    have hp := h p List.mem_cons_self
    rw [byd_cons, byd_cons, cnt_cons]
    have key : p.2.2 * mx 0 (p.2.1 - mx (p.1 - 1) s) - p.2.2 * mx 0 (p.2.1 - mx (p.1 - 1) (s + 1)) = if inT p (s + 1) = true then p.2.2 else 0 := by
      rw [← Int.mul_sub]
      have : mx 0 (p.2.1 - mx (p.1 - 1) s) - mx 0 (p.2.1 - mx (p.1 - 1) (s + 1)) = if inT p (s + 1) = true then 1 else 0 := by
        unfold mx inT
        simp only [Bool.and_eq_true, decide_eq_true_eq]
        repeat' split
        all_goals omega
      rw [this]
      split
      · exact Int.mul_one _
      · exact Int.mul_zero _
    omega
theorem byd_far {l : List T} {s : Int} (h : ∀ p ∈ l, p.2.1 ≤ s) : byd l s = 0 := by
  induction l with
  | nil => rfl
  | cons p l ih =>
    have ih := ih fun q hq => h q (List.mem_cons_of_mem _ hq)
    have hp := h p List.mem_cons_self
    rw [byd_cons, ih]
    have : mx 0 (p.2.1 - mx (p.1 - 1) s) = 0 := by
      unfold mx
      split <;> split <;> omega
    rw [this, Int.mul_zero]
    rfl
theorem top_of (l : List T) : ∃ M : Int, ∀ p ∈ l, p.2.1 ≤ M := by
  induction l with
  | nil => exact ⟨0, fun p h => by simp at h⟩
  | cons p l ih =>
    obtain ⟨M, h⟩ := ih
    refine ⟨mx p.2.1 M, fun q hq => ?_⟩
    unfold mx
    rcases List.mem_cons.mp hq with e | hq
    · subst e; split <;> omega
    · have := h q hq; split <;> omega
theorem byd_eq {l m : List T} (hl : ∀ p ∈ l, p.1 ≤ p.2.1) (hm : ∀ p ∈ m, p.1 ≤ p.2.1) (e : ∀ d, cnt l d = cnt m d) (s : Int) : byd l s = byd m s := by
  obtain ⟨M1, h1⟩ := top_of l
  obtain ⟨M2, h2⟩ := top_of m
  have key : ∀ (n : Nat) (s : Int), M1 ≤ s + n → M2 ≤ s + n → byd l s = byd m s := fun n => by
    induction n with
    | zero =>
      intro s a b
      rw [byd_far fun p hp => by have := h1 p hp; omega, byd_far fun p hp => by have := h2 p hp; omega]
    | succ n ih =>
      intro s a b
      have := ih (s + 1) (by omega) (by omega)
      have a1 := byd_step hl s
      have a2 := byd_step hm s
      have := e (s + 1)
      omega
  exact key ((M1 - s).toNat + (M2 - s).toNat) s (by omega) (by omega)
def ends (l : List T) : List Int := ((l.filter fun p => decide (p.1 > 1)).map fun p => p.1 - 1) ++ l.map fun p => p.2.1
theorem rows_len : ∀ (es : List P) (R : List T) (o b : Int), (es.foldl rst (R, o, b)).1.length ≤ R.length + es.length
  | [], R, o, b => Nat.le_refl _
  | e :: es, R, o, b => by
    rw [List.foldl_cons, List.length_cons, rst]
    simp only
    split
    · have := rows_len es (R ++ [(b, e.1 - 1, o)]) (o + e.2) e.1
      rw [List.length_append, List.length_singleton] at this
      omega
    · have := rows_len es R (o + e.2) b
      omega
theorem jn_len (l : List T) : (jn l).length ≤ l.length := by
  unfold jn
  rw [List.length_map]
  induction l using MG.snoc_ind with
  | h0 => exact Nat.le_refl _
  | h1 l a ih =>
    rw [MG.grp_snoc, List.length_append, List.length_singleton]
    unfold MG.stp
    split
    · split
      · rw [List.length_append, List.length_dropLast, List.length_singleton]; omega
      · rw [List.length_append, List.length_singleton]; omega
    · simp
theorem fin_len (l : List T) : (fin l).length ≤ 2 * l.length := by
  unfold fin
  have h1 : ((jn (rows (DL.sortP (evs l)))).filter fun r => decide (0 < r.2.2)).length ≤ (jn (rows (DL.sortP (evs l)))).length := List.length_filter_le _ _
  have h2 := jn_len (rows (DL.sortP (evs l)))
  have h3 := rows_len (DL.sortP (evs l)) [] 0 0
  have h4 := (sortP_perm (evs l)).length_eq
  have h5 : (evs l).length = 2 * l.length := by unfold evs; rw [List.length_append, List.length_map, List.length_map]; omega
  have h6 : rows (DL.sortP (evs l)) = ((DL.sortP (evs l)).foldl rst ([], 0, 0)).1 := rfl
  rw [List.length_nil] at h3
  rw [h6] at h1 h2 ⊢
  omega
theorem cnt_mem {l : List T} {d : Int} (h : cnt l d ≠ 0) : ∃ p ∈ l, inT p d = true := by
  induction l with
  | nil => exact absurd rfl h
  | cons p l ih =>
    by_cases hp : inT p d = true
    · exact ⟨p, List.mem_cons_self, hp⟩
    · rw [cnt_cons, if_neg hp, Int.zero_add] at h
      obtain ⟨q, hq, r⟩ := ih h
      exact ⟨q, List.mem_cons_of_mem _ hq, r⟩
theorem asc_cnt : ∀ {lo : Int} {l : List T}, Asc lo l → ∀ {p : T}, p ∈ l → ∀ {d : Int}, inT p d = true → cnt l d = p.2.2
  | _, [], _, p, h, _, _ => by simp at h
  | lo, r :: l, ha, p, h, d, hd => by
    have hd' := inT_iff.mp hd
    rcases List.mem_cons.mp h with e | h
    · subst e
      rw [cnt_cons, if_pos hd, ha.2.2.2.low (by omega)]
      omega
    · have := ha.2.2.2.mem p h
      rw [cnt_cons, if_neg (fun z => by have := inT_iff.mp z; omega), asc_cnt ha.2.2.2 h hd]
      omega
/-- the fewest pieces are no greater -/
theorem fin_bound {l : List T} {b t : Int} (h : Asc 1 l) (hb : ∀ p ∈ l, p.2.1 ≤ b ∧ p.2.2 ≤ t) : ∀ p ∈ fin l, 1 ≤ p.1 ∧ p.1 ≤ p.2.1 ∧ 0 < p.2.2 ∧ p.2.1 ≤ b ∧ p.2.2 ≤ t := fun p hp => by
  obtain ⟨hc, he⟩ := fin_ok (l := l) fun q hq => by have := h.mem q hq; omega
  have hm := hc.asc.mem p hp
  have e1 := asc_cnt hc.asc hp (d := p.2.1) (inT_iff.mpr ⟨hm.2.1, Int.le_refl _⟩)
  rw [he] at e1
  obtain ⟨q, hq, hi⟩ := cnt_mem (l := l) (d := p.2.1) (by omega)
  have e2 := asc_cnt h hq hi
  have := inT_iff.mp hi
  have := hb q hq
  omega
end MP
end
section
set_option maxHeartbeats 4000000
namespace MP
/-- multiplied -/
def sc (t : Int) (J : List T) : List T := if t > 0 then J.map fun p => (p.1, p.2.1, t * p.2.2) else []
theorem cnt_sc {t : Int} (ht : 0 ≤ t) (J : List T) (d : Int) : cnt (sc t J) d = t * cnt J d := by
  unfold sc
  by_cases h : t > 0
  · rw [if_pos h]
    clear ht h
    induction J with
    | nil => simp [cnt]
    | cons p J ih =>
      rw [List.map_cons, cnt_cons, cnt_cons, ih, Int.mul_add]
      congr 1
      have e : inT (p.1, p.2.1, t * p.2.2) d = inT p d := rfl
      rw [e]
      split <;> simp
  · have e : t = 0 := by omega
    rw [if_neg h, e]
    simp [cnt]
theorem canon_map {t : Int} (ht : 0 < t) : ∀ {lo : Int} {J : List T}, Canon lo J → Canon lo (J.map fun p => (p.1, p.2.1, t * p.2.2))
  | _, [], _ => trivial
  | _, r :: l, h => ⟨h.1, h.2.1, Int.mul_pos ht h.2.2.1, fun s hs e => by
      cases l with
      | nil => simp at hs
      | cons s' l =>
        simp only [List.map_cons, List.head?_cons, Option.some.injEq] at hs
        subst hs
        exact fun q => h.2.2.2.1 s' rfl e (Int.eq_of_mul_eq_mul_left (by omega) q), canon_map ht h.2.2.2.2⟩
theorem canon_sc {t lo : Int} {J : List T} (h : Canon lo J) : Canon lo (sc t J) := by
  unfold sc
  split
  · rename_i ht; exact canon_map ht h
  · trivial
theorem len_sc {t : Int} {J : List T} : (sc t J).length ≤ J.length := by
  unfold sc
  split
  · simp
  · simp
theorem canon_snoc : ∀ {lo : Int} {l : List T} {p : T}, Canon lo l → (∀ q ∈ l, q.2.1 < p.1) → lo ≤ p.1 → p.1 ≤ p.2.1 → 0 < p.2.2 → (∀ s, l.getLast? = some s → p.1 = s.2.1 + 1 → p.2.2 ≠ s.2.2) → Canon lo (l ++ [p])
  | _, [], p, _, _, h1, h2, h3, _ => ⟨h1, h2, h3, fun s e => by simp at e, trivial⟩
  | _, [r], p, h, hq, h1, h2, h3, h4 => ⟨h.1, h.2.1, h.2.2.1, fun s e es => by
      have e : some p = some s := e
      cases e
      exact h4 r rfl es, by have := hq r List.mem_cons_self; omega, h2, h3, fun s e => by simp at e, trivial⟩
  | _, r :: s :: l, p, h, hq, h1, h2, h3, h4 => ⟨h.1, h.2.1, h.2.2.1, h.2.2.2.1, canon_snoc (l := s :: l) h.2.2.2.2 (fun q hq' => hq q (List.mem_cons_of_mem _ hq')) (by have := hq r List.mem_cons_self; omega) h2 h3 fun z hz => h4 z (by rw [List.getLast?_cons_cons]; exact hz)⟩
theorem canon_ext : ∀ {lo : Int} {l : List T} {a e e' o : Int}, Canon lo (l ++ [(a, e, o)]) → e ≤ e' → Canon lo (l ++ [(a, e', o)])
  | _, [], a, e, e', o, h, he => ⟨h.1, Int.le_trans h.2.1 he, h.2.2.1, fun s q => by simp at q, trivial⟩
  | _, [r], a, e, e', o, h, he => ⟨h.1, h.2.1, h.2.2.1, fun s q es => by
      have q : some (a, e', o) = some s := q
      cases q
      exact h.2.2.2.1 (a, e, o) rfl es, canon_ext (l := []) h.2.2.2.2 he⟩
  | _, r :: s :: l, a, e, e', o, h, he => ⟨h.1, h.2.1, h.2.2.1, h.2.2.2.1, canon_ext (l := s :: l) h.2.2.2.2 he⟩
theorem cnt_one (p : T) (d : Int) : cnt [p] d = if inT p d = true then p.2.2 else 0 := by rw [cnt_cons, cnt_nil, Int.add_zero]
/-- what stands so far -/
structure Inv (f : Int → Int) (R : List T) (b : Int) : Prop where
  can : Canon 1 R
  end_ : ∀ p ∈ R, p.2.1 < b
  cnt_ : ∀ d, d < b → cnt R d = f d
theorem Inv.over {f : Int → Int} {R : List T} {b d : Int} (h : Inv f R b) (hd : b ≤ d) : cnt R d = 0 := by
  refine Classical.byContradiction fun z => ?_
  obtain ⟨p, hp, hi⟩ := cnt_mem z
  have := h.end_ p hp
  have := inT_iff.mp hi
  omega
theorem Inv.app {f : Int → Int} {R : List T} {lo hi : Int} (h : Inv f R lo) (h1 : 1 ≤ lo) (hl : lo < hi) (hc : ∀ d, lo ≤ d → d < hi → f d = f lo) (h0 : 0 < f lo) (hn : ∀ s, R.getLast? = some s → s.2.1 = lo - 1 → s.2.2 ≠ f lo) : Inv f (R ++ [(lo, hi - 1, f lo)]) hi :=
  ⟨canon_snoc h.can h.end_ h1 (by show lo ≤ hi - 1; omega) h0 fun s hs e q => hn s hs (by simp only at e; omega) q.symm, fun p hp => by
    rcases List.mem_append.mp hp with q | q
    · have := h.end_ p q; omega
    · rw [List.mem_singleton] at q
      subst q
      show hi - 1 < hi
      omega, fun d hd => by
    rw [cnt_app, cnt_one]
    by_cases q : d < lo
    · rw [h.cnt_ d q, if_neg (fun z => by have := inT_iff.mp z; simp only at this; omega), Int.add_zero]
    · rw [h.over (by omega), if_pos (inT_iff.mpr ⟨by show lo ≤ d; omega, by show d ≤ hi - 1; omega⟩), hc d (by omega) hd]
      simp⟩
theorem Inv.ext {f : Int → Int} {R : List T} {a lo hi : Int} (h : Inv f (R ++ [(a, lo - 1, f lo)]) lo) (hl : lo < hi) (hc : ∀ d, lo ≤ d → d < hi → f d = f lo) : Inv f (R ++ [(a, hi - 1, f lo)]) hi :=
  ⟨canon_ext h.can (by omega), fun p hp => by
    rcases List.mem_append.mp hp with q | q
    · have := h.end_ p (List.mem_append_left _ q); omega
    · rw [List.mem_singleton] at q
      subst q
      show hi - 1 < hi
      omega, fun d hd => by
    have ha := (h.can.asc.mem (a, lo - 1, f lo) (by simp)).2.1
    simp only at ha
    have hR : lo ≤ d → cnt R d = 0 := fun q => Classical.byContradiction fun z => by
      obtain ⟨p, hp, hi⟩ := cnt_mem z
      have := h.end_ p (List.mem_append_left _ hp)
      have := inT_iff.mp hi
      omega
    rw [cnt_app, cnt_one]
    by_cases q : d < lo
    · have e := h.cnt_ d q
      rw [cnt_app, cnt_one] at e
      rw [← e]
      congr 1
      by_cases z : a ≤ d
      · rw [if_pos (inT_iff.mpr ⟨z, by show d ≤ hi - 1; omega⟩), if_pos (inT_iff.mpr ⟨z, by show d ≤ lo - 1; omega⟩)]
      · rw [if_neg (fun y => z (inT_iff.mp y).1), if_neg (fun y => z (inT_iff.mp y).1)]
    · rw [hR (by omega), if_pos (inT_iff.mpr ⟨by show a ≤ d; omega, by show d ≤ hi - 1; omega⟩), hc d (by omega) hd]
      simp⟩
/-- two canonical lists of the same numbers -/
theorem canon_fin {l R : List T} (h : ∀ p ∈ l, 1 ≤ p.1 ∧ p.1 ≤ p.2.1 ∧ 0 ≤ p.2.2) (hR : Canon 1 R) (e : ∀ d, cnt R d = cnt l d) : R = fin l :=
  canon_uniq hR (fin_ok h).1 fun d => by rw [e, (fin_ok h).2]
end MP
end
section
set_option maxHeartbeats 4000000
set_option exponentiation.threshold 3000
namespace K12
open PySem PySem.Spec L2 DL
open PyProof.Rows hiding St
open Lean in
local macro_rules | `(tactic| push_cast [$ts,*]) => `(tactic| simp only [↓DL.r0, ↓DL.r1, ↓DL.r2, ↓DL.r3, ↓DL.r4, ↓DL.r5, ↓DL.r6, ↓DL.r7, ↓DL.r8, ↓DL.r9, ↓DL.r10, ↓DL.r11, ↓DL.r12, ↓DL.r13, ↓DL.r14, ↓DL.r15, ↓DL.r16, ↓DL.r17, ↓DL.r18, ↓DL.r19, ↓DL.r20, ↓DL.r21, ↓DL.r22, ↓DL.r23, ↓DL.r24, ↓DL.r25, ↓DL.r26, ↓DL.r27, ↓DL.r28, ↓DL.r29, DL.s0, DL.s1, DL.s2, DL.s3, DL.s4, DL.s5, DL.s6, DL.s7, DL.s8, DL.s9, DL.s10, DL.s11, DL.s12, DL.s13, DL.s14, DL.s15, DL.s16, DL.s17, DL.s18, DL.s19, DL.s20, DL.s21, DL.s22, DL.s23, DL.s24, DL.s25, DL.s26, DL.s27, DL.s28, DL.s29, DL.startD_cons, DL.startD_nil, DL.startD_zero, ↓DL.w_ok, ↓DL.w_some, ↓DL.w_somec, ↓DL.w_bind, ↓DL.w_opt, ↓DL.w_chg, ↓DL.w_kon, ↓DL.w_calm, ↓DL.w_b2, ↓DL.w_b2L, ↓DL.w_b1, ↓DL.wB_bl, ↓DL.w_asB, ↓DL.w_b2T, ↓DL.w_chE, ↓DL.w_chT, ↓DL.w_not, ↓DL.w_val, ↓DL.w_notE, ↓DL.w_ifE, ↓DL.w_ifL, ↓DL.w_andM, ↓DL.w_orM, ↓DL.w_andE, ↓DL.w_orE, ↓DL.w_nil, ↓DL.w_cons, ↓DL.w_tup, ↓DL.w_lst, ↓DL.w_frz, ↓DL.w_new, ↓DL.w_cel, ↓DL.w_cb, ↓DL.w_cbL, ↓DL.w_call, ↓DL.w_callL, ↓DL.w_ar0, ↓DL.w_ar1, ↓DL.w_ar2, ↓DL.w_ar3, ↓DL.w_ar4, ↓DL.w_ar5, ↓DL.w_ar6, ↓DL.w_noO, ↓DL.w_smO, ↓DL.w_sl, ↓DL.w_slL, ↓DL.w_rev, ↓DL.w_step, ↓DL.w_isi, ↓DL.w_sets, ↓DL.w_lrg, ↓DL.w_mth, ↓DL.w_mth0, ↓DL.w_itS, ↓DL.w_itR1, ↓DL.w_itR2, ↓DL.w_itR3, ↓DL.w_itZ, ↓DL.w_itN, ↓DL.w_lc, ↓DL.w_nx, ↓DL.w_rt, ↓DL.w_seq, ↓DL.w_set, ↓DL.wPar_2, ↓DL.w_par, ↓DL.w_aug, ↓DL.w_sto, ↓DL.w_exp, ↓DL.w_ret, ↓DL.w_retN, ↓DL.w_nxS, ↓DL.w_ifS, ↓DL.w_for, ↓DL.w_asg, ↓DL.w_stk, ↓DL.w_body, ↓DL.w_bodyL, ↓DL.wret_non, ↓DL.wret_bl, ↓DL.wret_int, ↓DL.wret_str, ↓DL.wif_t, ↓DL.wif_f, ↓DL.wif_d, ↓DL.wif_n, ↓DL.wif_a, ↓DL.wif_o, DL.few0, DL.few1, DL.few2, DL.few3, DL.few4, DL.few5, DL.few6, DL.few7, DL.few8, DL.few9, DL.few10, true_and, and_true, ↓DL.a_nm, ↓DL.a_tp1, ↓DL.a_tp2, ↓DL.a_tp3, ↓DL.a_tp4, ↓DL.a_tp5, ↓DL.a_tpn, ↓DL.a_tpm, ↓DL.a_encP, DL.wipe_nil, DL.wipe_cons, DL.o_add, DL.o_sub, DL.o_neg, ↓DL.o_mul, ↓DL.o_div, ↓DL.o_mod, DL.o_pow, ↓DL.o_p10_3, ↓DL.o_p10_4, ↓DL.o_p10_6, ↓DL.o_p10_8, ↓DL.o_p10_9, ↓DL.o_p10_12, ↓DL.o_p10_15, ↓DL.o_p10_18, ↓DL.o_p10_20, ↓DL.o_p10_25, ↓DL.o_p10_26, ↓DL.o_p10_27, ↓DL.o_p10_28, ↓DL.o_p10_29, ↓DL.o_p10_30, ↓DL.o_p10_31, ↓DL.o_p10_36, ↓DL.o_p10_38, ↓DL.o_p10_40, ↓DL.o_p10_42, ↓DL.o_p10_44, ↓DL.o_p10_46, ↓DL.o_p10_48, ↓DL.o_p10_50, ↓DL.o_p10_60, ↓DL.o_p10_64, ↓DL.o_p10_70, ↓DL.o_p10_90, ↓DL.o_p10_99, ↓DL.o_p10_100, ↓DL.o_addS, ↓DL.o_addT, ↓DL.o_catL, ↓DL.o_addL, DL.o_lt, DL.o_le, DL.o_gt, DL.o_ge, DL.o_eqI, DL.o_neI, DL.o_eqS, DL.o_neS, DL.o_is, DL.o_isn, DL.n_non, DL.n_bl, DL.n_int, DL.n_str, DL.n_lst, DL.n_tup, DL.n_ref, DL.n_obj, DL.i_non_int, DL.i_non_bool, DL.i_non_str, DL.i_non_list, DL.i_non_tuple, DL.i_bl_int, DL.i_bl_bool, DL.i_bl_str, DL.i_bl_list, DL.i_bl_tuple, DL.i_int_int, DL.i_int_bool, DL.i_int_str, DL.i_int_list, DL.i_int_tuple, DL.i_str_int, DL.i_str_bool, DL.i_str_str, DL.i_str_list, DL.i_str_tuple, DL.i_lst_int, DL.i_lst_bool, DL.i_lst_str, DL.i_lst_list, DL.i_lst_tuple, DL.i_tup_int, DL.i_tup_bool, DL.i_tup_str, DL.i_tup_list, DL.i_tup_tuple, DL.t_non, DL.t_bl, DL.t_int, DL.t_lst, DL.t_tup, ↓DL.x_lst, ↓DL.x_tup, ↓DL.x_encP0, ↓DL.x_encP1, DL.ixn1_0, DL.ixn1_m1, DL.ixn2_0, DL.ixn2_1, DL.ixn2_m1, DL.ixn3_0, DL.ixn3_1, DL.ixn3_2, DL.ixn3_m1, DL.ixn4_0, DL.ixn4_1, DL.ixn4_2, DL.ixn4_3, DL.ixn4_m1, DL.ixn5_0, DL.ixn5_1, DL.ixn5_2, DL.ixn5_3, DL.ixn5_4, DL.ixn5_m1, DL.ixn6_0, DL.ixn6_1, DL.ixn6_2, DL.ixn6_3, DL.ixn6_4, DL.ixn6_5, DL.ixn6_m1, DL.ixn7_0, DL.ixn7_1, DL.ixn7_2, DL.ixn7_3, DL.ixn7_4, DL.ixn7_5, DL.ixn7_6, DL.ixn7_m1, DL.ixn8_0, DL.ixn8_1, DL.ixn8_2, DL.ixn8_3, DL.ixn8_4, DL.ixn8_5, DL.ixn8_6, DL.ixn8_7, DL.ixn8_m1, ↓DL.x1_0, ↓DL.x1_m1, ↓DL.x2_0, ↓DL.x2_1, ↓DL.x2_m1, ↓DL.x3_0, ↓DL.x3_1, ↓DL.x3_2, ↓DL.x3_m1, ↓DL.x4_0, ↓DL.x4_1, ↓DL.x4_2, ↓DL.x4_3, ↓DL.x4_m1, ↓DL.x5_0, ↓DL.x5_1, ↓DL.x5_2, ↓DL.x5_3, ↓DL.x5_4, ↓DL.x5_m1, ↓DL.x6_0, ↓DL.x6_1, ↓DL.x6_2, ↓DL.x6_3, ↓DL.x6_4, ↓DL.x6_5, ↓DL.x6_m1, ↓DL.x7_0, ↓DL.x7_1, ↓DL.x7_2, ↓DL.x7_3, ↓DL.x7_4, ↓DL.x7_5, ↓DL.x7_6, ↓DL.x7_m1, ↓DL.x8_0, ↓DL.x8_1, ↓DL.x8_2, ↓DL.x8_3, ↓DL.x8_4, ↓DL.x8_5, ↓DL.x8_6, ↓DL.x8_7, ↓DL.x8_m1, DL.c_abs, DL.c_max2, DL.c_min2, DL.c_int, DL.c_intb, DL.c_lenS, DL.c_lenT, DL.c_lenL, DL.c_listT, DL.c_listL, DL.c_tupT, DL.c_tupL, DL.c_sum, DL.c_sum0, DL.c_all, DL.c_any, DL.c_minP, DL.c_maxP, DL.c_sortP, DL.c_zip, DL.c_enum, DL.c_range1, DL.c_range2, DL.g_lst, DL.g_tup, DL.g_str, DL.p_int, DL.sq_lst, DL.sl_lst, DL.sl_tup, DL.sl_str, DL.slL_lst, DL.om_some, List.set_cons_zero, List.set_cons_succ, DL.m_tyL, DL.m_tyS, DL.m_ty, DL.m_app, DL.m_sto, DL.m_fzL, DL.m_fzI, DL.m_fzT, DL.m_fz, DL.x_ref, DL.c_lenR, DL.c_listR, DL.c_tupR, DL.sl_ref, DL.atL_new, DL.atL_new1, DL.atL_new2, DL.atL_old, DL.set_new, DL.set_new1, DL.set_new2, DL.set_old, DL.take_app, DL.app_app, DL.cons_app, DL.nil_app, DL.len_app1, DL.len_app2, DL.len_app3, DL.len_set, DL.seq_new, DL.seq_new1, DL.seq_new2, DL.seq_old, DL.ex_some, DL.fl_non, DL.fl_int, DL.fl_bl, DL.fl_str, DL.fl_tup, DL.fl_lst, DL.fl_obj, DL.fl_nil, DL.fl_cons, DL.fl_app, DL.fl_encP, Bool.and_self, Bool.and_true, Bool.true_and, List.set_set, ↓DL.w_yes, ↓DL.w_fld, ↓DL.w_mt, ↓DL.w_mtL, ↓DL.w_mt0, ↓DL.w_mt0L, ↓DL.w_ic, DL.isO_obj, ↓DL.w_make, ↓DL.w_b2M, ↓DL.w_b2MT, DL.c_intU, DL.c_intbU, ↓DL.w_mthL, ↓DL.w_uM, ↓DL.w_inv, ↓DL.w_bin_obj, ↓DL.w_bin_int, ↓DL.w_fldS, DL.m_fld, DL.atI_new, DL.putD, ↓DL.w_repL, ↓DL.w_isiC, ↓DL.w_par3, ↓DL.wPar3_3, DL.m_count, DL.wretL_new, DL.wret_new, ↓DL.c_setSort, DL.o_addI, DL.o_inS, DL.o_ninS, ↓DL.c_str, ↓DL.c_intSw, ↓DL.m_ext, DL.slt_l, DL.slt_t, DL.slt_r, ↓DL.c_dm, ↓DL.c_split, ↓DL.c_join, ↓DL.c_rep, ↓DL.x_str, ↓DL.o_catRL, ↓DL.o_addRL, ↓DL.wret_tup, ↓DL.wret_lst, List.take_length, List.length_cons, List.length_nil, List.length_map, Int.cast_ofNat_Int, Bool.not_true, Bool.not_false, Int.reduceAdd, Int.reduceSub, Int.reduceMul, Int.reduceNeg, Int.reduceEq, Int.reduceLT, Int.reduceLE, Nat.reduceAdd, Nat.reduceSub, eq_self, not_true_eq_false, not_false_eq_true, false_implies, implies_true, true_implies, ff_Profile_own_cold, ff_Profile_own_pieces, fm_Profile_pieces, fm_Profile_accesses, fm_Profile_cold, isf_Profile_Profile, isf_Profile_0s, isf_Profile_0i, isf_Profile_0l, isf_Profile_0t, isf_Profile_0n, isf_Profile_0b, isf_Profile_0d, $ts,*])
open Lean in
local macro_rules | `(tactic| push_cast) => `(tactic| simp only [↓DL.r0, ↓DL.r1, ↓DL.r2, ↓DL.r3, ↓DL.r4, ↓DL.r5, ↓DL.r6, ↓DL.r7, ↓DL.r8, ↓DL.r9, ↓DL.r10, ↓DL.r11, ↓DL.r12, ↓DL.r13, ↓DL.r14, ↓DL.r15, ↓DL.r16, ↓DL.r17, ↓DL.r18, ↓DL.r19, ↓DL.r20, ↓DL.r21, ↓DL.r22, ↓DL.r23, ↓DL.r24, ↓DL.r25, ↓DL.r26, ↓DL.r27, ↓DL.r28, ↓DL.r29, DL.s0, DL.s1, DL.s2, DL.s3, DL.s4, DL.s5, DL.s6, DL.s7, DL.s8, DL.s9, DL.s10, DL.s11, DL.s12, DL.s13, DL.s14, DL.s15, DL.s16, DL.s17, DL.s18, DL.s19, DL.s20, DL.s21, DL.s22, DL.s23, DL.s24, DL.s25, DL.s26, DL.s27, DL.s28, DL.s29, DL.startD_cons, DL.startD_nil, DL.startD_zero, ↓DL.w_ok, ↓DL.w_some, ↓DL.w_somec, ↓DL.w_bind, ↓DL.w_opt, ↓DL.w_chg, ↓DL.w_kon, ↓DL.w_calm, ↓DL.w_b2, ↓DL.w_b2L, ↓DL.w_b1, ↓DL.wB_bl, ↓DL.w_asB, ↓DL.w_b2T, ↓DL.w_chE, ↓DL.w_chT, ↓DL.w_not, ↓DL.w_val, ↓DL.w_notE, ↓DL.w_ifE, ↓DL.w_ifL, ↓DL.w_andM, ↓DL.w_orM, ↓DL.w_andE, ↓DL.w_orE, ↓DL.w_nil, ↓DL.w_cons, ↓DL.w_tup, ↓DL.w_lst, ↓DL.w_frz, ↓DL.w_new, ↓DL.w_cel, ↓DL.w_cb, ↓DL.w_cbL, ↓DL.w_call, ↓DL.w_callL, ↓DL.w_ar0, ↓DL.w_ar1, ↓DL.w_ar2, ↓DL.w_ar3, ↓DL.w_ar4, ↓DL.w_ar5, ↓DL.w_ar6, ↓DL.w_noO, ↓DL.w_smO, ↓DL.w_sl, ↓DL.w_slL, ↓DL.w_rev, ↓DL.w_step, ↓DL.w_isi, ↓DL.w_sets, ↓DL.w_lrg, ↓DL.w_mth, ↓DL.w_mth0, ↓DL.w_itS, ↓DL.w_itR1, ↓DL.w_itR2, ↓DL.w_itR3, ↓DL.w_itZ, ↓DL.w_itN, ↓DL.w_lc, ↓DL.w_nx, ↓DL.w_rt, ↓DL.w_seq, ↓DL.w_set, ↓DL.wPar_2, ↓DL.w_par, ↓DL.w_aug, ↓DL.w_sto, ↓DL.w_exp, ↓DL.w_ret, ↓DL.w_retN, ↓DL.w_nxS, ↓DL.w_ifS, ↓DL.w_for, ↓DL.w_asg, ↓DL.w_stk, ↓DL.w_body, ↓DL.w_bodyL, ↓DL.wret_non, ↓DL.wret_bl, ↓DL.wret_int, ↓DL.wret_str, ↓DL.wif_t, ↓DL.wif_f, ↓DL.wif_d, ↓DL.wif_n, ↓DL.wif_a, ↓DL.wif_o, DL.few0, DL.few1, DL.few2, DL.few3, DL.few4, DL.few5, DL.few6, DL.few7, DL.few8, DL.few9, DL.few10, true_and, and_true, ↓DL.a_nm, ↓DL.a_tp1, ↓DL.a_tp2, ↓DL.a_tp3, ↓DL.a_tp4, ↓DL.a_tp5, ↓DL.a_tpn, ↓DL.a_tpm, ↓DL.a_encP, DL.wipe_nil, DL.wipe_cons, DL.o_add, DL.o_sub, DL.o_neg, ↓DL.o_mul, ↓DL.o_div, ↓DL.o_mod, DL.o_pow, ↓DL.o_p10_3, ↓DL.o_p10_4, ↓DL.o_p10_6, ↓DL.o_p10_8, ↓DL.o_p10_9, ↓DL.o_p10_12, ↓DL.o_p10_15, ↓DL.o_p10_18, ↓DL.o_p10_20, ↓DL.o_p10_25, ↓DL.o_p10_26, ↓DL.o_p10_27, ↓DL.o_p10_28, ↓DL.o_p10_29, ↓DL.o_p10_30, ↓DL.o_p10_31, ↓DL.o_p10_36, ↓DL.o_p10_38, ↓DL.o_p10_40, ↓DL.o_p10_42, ↓DL.o_p10_44, ↓DL.o_p10_46, ↓DL.o_p10_48, ↓DL.o_p10_50, ↓DL.o_p10_60, ↓DL.o_p10_64, ↓DL.o_p10_70, ↓DL.o_p10_90, ↓DL.o_p10_99, ↓DL.o_p10_100, ↓DL.o_addS, ↓DL.o_addT, ↓DL.o_catL, ↓DL.o_addL, DL.o_lt, DL.o_le, DL.o_gt, DL.o_ge, DL.o_eqI, DL.o_neI, DL.o_eqS, DL.o_neS, DL.o_is, DL.o_isn, DL.n_non, DL.n_bl, DL.n_int, DL.n_str, DL.n_lst, DL.n_tup, DL.n_ref, DL.n_obj, DL.i_non_int, DL.i_non_bool, DL.i_non_str, DL.i_non_list, DL.i_non_tuple, DL.i_bl_int, DL.i_bl_bool, DL.i_bl_str, DL.i_bl_list, DL.i_bl_tuple, DL.i_int_int, DL.i_int_bool, DL.i_int_str, DL.i_int_list, DL.i_int_tuple, DL.i_str_int, DL.i_str_bool, DL.i_str_str, DL.i_str_list, DL.i_str_tuple, DL.i_lst_int, DL.i_lst_bool, DL.i_lst_str, DL.i_lst_list, DL.i_lst_tuple, DL.i_tup_int, DL.i_tup_bool, DL.i_tup_str, DL.i_tup_list, DL.i_tup_tuple, DL.t_non, DL.t_bl, DL.t_int, DL.t_lst, DL.t_tup, ↓DL.x_lst, ↓DL.x_tup, ↓DL.x_encP0, ↓DL.x_encP1, DL.ixn1_0, DL.ixn1_m1, DL.ixn2_0, DL.ixn2_1, DL.ixn2_m1, DL.ixn3_0, DL.ixn3_1, DL.ixn3_2, DL.ixn3_m1, DL.ixn4_0, DL.ixn4_1, DL.ixn4_2, DL.ixn4_3, DL.ixn4_m1, DL.ixn5_0, DL.ixn5_1, DL.ixn5_2, DL.ixn5_3, DL.ixn5_4, DL.ixn5_m1, DL.ixn6_0, DL.ixn6_1, DL.ixn6_2, DL.ixn6_3, DL.ixn6_4, DL.ixn6_5, DL.ixn6_m1, DL.ixn7_0, DL.ixn7_1, DL.ixn7_2, DL.ixn7_3, DL.ixn7_4, DL.ixn7_5, DL.ixn7_6, DL.ixn7_m1, DL.ixn8_0, DL.ixn8_1, DL.ixn8_2, DL.ixn8_3, DL.ixn8_4, DL.ixn8_5, DL.ixn8_6, DL.ixn8_7, DL.ixn8_m1, ↓DL.x1_0, ↓DL.x1_m1, ↓DL.x2_0, ↓DL.x2_1, ↓DL.x2_m1, ↓DL.x3_0, ↓DL.x3_1, ↓DL.x3_2, ↓DL.x3_m1, ↓DL.x4_0, ↓DL.x4_1, ↓DL.x4_2, ↓DL.x4_3, ↓DL.x4_m1, ↓DL.x5_0, ↓DL.x5_1, ↓DL.x5_2, ↓DL.x5_3, ↓DL.x5_4, ↓DL.x5_m1, ↓DL.x6_0, ↓DL.x6_1, ↓DL.x6_2, ↓DL.x6_3, ↓DL.x6_4, ↓DL.x6_5, ↓DL.x6_m1, ↓DL.x7_0, ↓DL.x7_1, ↓DL.x7_2, ↓DL.x7_3, ↓DL.x7_4, ↓DL.x7_5, ↓DL.x7_6, ↓DL.x7_m1, ↓DL.x8_0, ↓DL.x8_1, ↓DL.x8_2, ↓DL.x8_3, ↓DL.x8_4, ↓DL.x8_5, ↓DL.x8_6, ↓DL.x8_7, ↓DL.x8_m1, DL.c_abs, DL.c_max2, DL.c_min2, DL.c_int, DL.c_intb, DL.c_lenS, DL.c_lenT, DL.c_lenL, DL.c_listT, DL.c_listL, DL.c_tupT, DL.c_tupL, DL.c_sum, DL.c_sum0, DL.c_all, DL.c_any, DL.c_minP, DL.c_maxP, DL.c_sortP, DL.c_zip, DL.c_enum, DL.c_range1, DL.c_range2, DL.g_lst, DL.g_tup, DL.g_str, DL.p_int, DL.sq_lst, DL.sl_lst, DL.sl_tup, DL.sl_str, DL.slL_lst, DL.om_some, List.set_cons_zero, List.set_cons_succ, DL.m_tyL, DL.m_tyS, DL.m_ty, DL.m_app, DL.m_sto, DL.m_fzL, DL.m_fzI, DL.m_fzT, DL.m_fz, DL.x_ref, DL.c_lenR, DL.c_listR, DL.c_tupR, DL.sl_ref, DL.atL_new, DL.atL_new1, DL.atL_new2, DL.atL_old, DL.set_new, DL.set_new1, DL.set_new2, DL.set_old, DL.take_app, DL.app_app, DL.cons_app, DL.nil_app, DL.len_app1, DL.len_app2, DL.len_app3, DL.len_set, DL.seq_new, DL.seq_new1, DL.seq_new2, DL.seq_old, DL.ex_some, DL.fl_non, DL.fl_int, DL.fl_bl, DL.fl_str, DL.fl_tup, DL.fl_lst, DL.fl_obj, DL.fl_nil, DL.fl_cons, DL.fl_app, DL.fl_encP, Bool.and_self, Bool.and_true, Bool.true_and, List.set_set, ↓DL.w_yes, ↓DL.w_fld, ↓DL.w_mt, ↓DL.w_mtL, ↓DL.w_mt0, ↓DL.w_mt0L, ↓DL.w_ic, DL.isO_obj, ↓DL.w_make, ↓DL.w_b2M, ↓DL.w_b2MT, DL.c_intU, DL.c_intbU, ↓DL.w_mthL, ↓DL.w_uM, ↓DL.w_inv, ↓DL.w_bin_obj, ↓DL.w_bin_int, ↓DL.w_fldS, DL.m_fld, DL.atI_new, DL.putD, ↓DL.w_repL, ↓DL.w_isiC, ↓DL.w_par3, ↓DL.wPar3_3, DL.m_count, DL.wretL_new, DL.wret_new, ↓DL.c_setSort, DL.o_addI, DL.o_inS, DL.o_ninS, ↓DL.c_str, ↓DL.c_intSw, ↓DL.m_ext, DL.slt_l, DL.slt_t, DL.slt_r, ↓DL.c_dm, ↓DL.c_split, ↓DL.c_join, ↓DL.c_rep, ↓DL.x_str, ↓DL.o_catRL, ↓DL.o_addRL, ↓DL.wret_tup, ↓DL.wret_lst, List.take_length, List.length_cons, List.length_nil, List.length_map, Int.cast_ofNat_Int, Bool.not_true, Bool.not_false, Int.reduceAdd, Int.reduceSub, Int.reduceMul, Int.reduceNeg, Int.reduceEq, Int.reduceLT, Int.reduceLE, Nat.reduceAdd, Nat.reduceSub, eq_self, not_true_eq_false, not_false_eq_true, false_implies, implies_true, true_implies, ff_Profile_own_cold, ff_Profile_own_pieces, fm_Profile_pieces, fm_Profile_accesses, fm_Profile_cold, isf_Profile_Profile, isf_Profile_0s, isf_Profile_0i, isf_Profile_0l, isf_Profile_0t, isf_Profile_0n, isf_Profile_0b, isf_Profile_0d])
def encT (p : MP.T) : D := .tup [.int p.1, .int p.2.1, .int p.2.2]
section
variable {S : Cells}
theorem z24 : sizeLine = 16777216 := by decide
theorem fl_encT {p : MP.T} : (encT p).flat = true := by rw [encT, fl_tup, fl_cons, fl_cons, fl_cons, fl_int, fl_int, fl_int]; rfl
theorem fl_ts {l : List MP.T} : flatL (l.map encT) = true := fl_map fun _ _ => fl_encT
theorem is_int_int (i : Int) : g_is_int [.int i] S = .ok (.bl true) S := by
  refine wp_ok ?_
  push_cast [g_is_int, B_is_int]
theorem in_range_lo {i lo : Int} (h : lo ≤ i) : g_in_range [.int i, .int lo, .non] S = .ok (.bl true) S := by
  refine wp_ok ?_
  push_cast [g_in_range, B_in_range, is_int_int]
  exact fun q => absurd h q
theorem is_piece_ok {p : MP.T} (h : 1 ≤ p.1 ∧ p.1 ≤ p.2.1 ∧ 1 ≤ p.2.2) : g_is_piece [encT p] S = .ok (.bl true) S := by
  refine wp_ok ?_
  push_cast [g_is_piece, B_is_piece, encT, in_range_lo h.1, in_range_lo h.2.1, in_range_lo h.2.2]
theorem row_loop {v0 v1 : Option D} {N : En → Cells → Prop} {Rt : D → Cells → Prop} {E : Xc → En → Cells → Prop} {x7 x8 x9 x10 x11 x12 x13 x14 x15 x16 : Option D} (es : List MP.P) (hz : es.length ≤ 100000)
    (h : ∀ (x5 x6 : Option D) (R : List MP.T) (o b : Int), es.foldl MP.rst ([], 0, 0) = (R, o, b) → R.length ≤ es.length → N [v0, v1, some (.ref S.length), some (.int o), some (.int b), x5, x6, x7, x8, x9, x10, x11, x12, x13, x14, x15, x16] (S ++ [⟨true, .lst (R.map encT)⟩])) :
    wo (forD (.tp [.nm 5, .nm 6]) L1_joined_pieces (es.map encP) [v0, v1, some (.ref S.length), some (.int 0), some (.int 0), none, none, x7, x8, x9, x10, x11, x12, x13, x14, x15, x16] (S ++ [⟨true, .lst []⟩])) N Rt E := by
  have zz := z24
  refine for_st (σ := (List MP.T × Int × Int) × List MP.P × Option D × Option D) encP
    (fun s => [v0, v1, some (.ref S.length), some (.int s.1.2.1), some (.int s.1.2.2), s.2.2.1, s.2.2.2, x7, x8, x9, x10, x11, x12, x13, x14, x15, x16]) (fun s => S ++ [⟨true, .lst (s.1.1.map encT)⟩])
    (fun s r => es = s.2.1 ++ r ∧ s.1 = s.2.1.foldl MP.rst ([], 0, 0) ∧ s.1.1.length ≤ s.2.1.length) es (([], 0, 0), [], none, none) ⟨rfl, rfl, Nat.le_refl _⟩ ?_ ?_
  · rintro ⟨⟨R, o, b⟩, A, x5, x6⟩ e r ⟨h1, h2, h3⟩
    simp only at h1 h2 h3
    have hl : es.length = A.length + (r.length + 1) := by rw [h1, List.length_append, List.length_cons]
    have hf : (A ++ [e]).foldl MP.rst ([], 0, 0) = MP.rst (R, o, b) e := by rw [List.foldl_append, ← h2]; rfl
    push_cast [L1_joined_pieces]
    refine ⟨fun hb => ⟨by omega, ((R ++ [(b, e.1 - 1, o)], o + e.2, e.1), A ++ [e], some (.int e.1), some (.int e.2)), rfl, ?_, ?_, ?_, ?_⟩, fun hb => ⟨((R, o + e.2, b), A ++ [e], some (.int e.1), some (.int e.2)), rfl, rfl, ?_, ?_, ?_⟩⟩
    · rw [List.map_append]; rfl
    · rw [h1, List.append_assoc]; rfl
    · rw [hf]; unfold MP.rst; rw [if_pos hb]
    · simp only [List.length_append, List.length_singleton]; omega
    · rw [h1, List.append_assoc]; rfl
    · rw [hf]; unfold MP.rst; rw [if_neg hb]
    · simp only [List.length_append, List.length_singleton]; omega
  · rintro ⟨⟨R, o, b⟩, A, x5, x6⟩ ⟨h1, h2, h3⟩
    simp only [List.append_nil] at h1 h2 h3
    subst h1
    exact h x5 x6 R o b h2.symm h3
theorem joined_ok {l : List MP.T} (hz : l.length ≤ 10000) : g_joined_pieces [.lst (l.map encT)] S = .ok (.lst ((MP.fin l).map encT)) S := by
  have zz := z24
  refine wp_ok ?_
  push_cast [g_joined_pieces, B_joined_pieces]
  refine comp_map_wp encT (fun p => encP (p.1, p.2.2)) l (fun a ha => ?_) ?_
  · unfold cStep
    push_cast [encT]
    rfl
  push_cast
  refine comp_map_wp encT (fun p => encP (p.2.1 + 1, 0 - p.2.2)) l (fun a ha => ?_) ?_
  · unfold cStep
    push_cast [encT]
    rfl
  push_cast
  refine ⟨by omega, ?_⟩
  rw [show l.map (fun p => encP (p.1, p.2.2)) ++ l.map (fun p => encP (p.2.1 + 1, 0 - p.2.2)) = (MP.evs l).map encP by unfold MP.evs; rw [List.map_append, List.map_map, List.map_map]; rfl]
  have hp := (MP.sortP_perm (MP.evs l)).length_eq
  have he : (MP.evs l).length = 2 * l.length := by unfold MP.evs; rw [List.length_append, List.length_map, List.length_map]; omega
  push_cast
  refine row_loop _ (by omega) fun x5 x6 R o b hR hl => ?_
  have eR : MP.rows (sortP (MP.evs l)) = R := by unfold MP.rows; rw [hR]
  have gz : ∀ {k : Nat}, k < R.length → R[k]? = some (R.getD k (0, 0, 0)) := fun {k} hk => by rw [List.getD_eq_getElem?_getD, List.getElem?_eq_getElem hk]; rfl
  push_cast [w_rangeN (show R.length ≤ sizeLine by omega)]
  refine comp_fil_wp (fun k : Nat => D.int k) (MG.tst MP.same (0, 0, 0) R) (fun k : Nat => D.int k) (List.range R.length) (fun k hk => ?_) ?_
  · have hk := List.mem_range.mp hk
    unfold cStep
    cases k with
    | zero => push_cast; rfl
    | succ j =>
      push_cast [wAt_map (enc := encT) (k := ((j + 1 : Nat) : Int)) rfl (gz hk), wAt_map (enc := encT) (k := ((j + 1 : Nat) : Int) - 1) (n := j) (by omega) (gz (by omega)), encT]
      have et : MG.tst MP.same (0, 0, 0) R (j + 1) = !decide ((R.getD (j + 1) (0, 0, 0)).2.2 = (R.getD j (0, 0, 0)).2.2) := rfl
      rw [et]
      exact ⟨fun q => by omega, fun _ => ⟨fun q => by rw [decide_eq_true q]; rfl, fun q => by rw [decide_eq_false q]; rfl⟩⟩
  have hb := MG.begs_len MP.same (0, 0, 0) R
  have eb : List.filter (MG.tst MP.same (0, 0, 0) R) (List.range R.length) = MG.begs MP.same (0, 0, 0) R := rfl
  push_cast [cut_1]
  rw [eb]
  refine ⟨by rw [List.length_drop, List.length_map]; omega, ?_⟩
  rw [← List.map_drop, show ((MG.begs MP.same (0, 0, 0) R).drop 1).map (fun k : Nat => D.int k) ++ [D.int (R.length : Nat)] = ((MG.begs MP.same (0, 0, 0) R).drop 1 ++ [R.length]).map fun k : Nat => D.int k by rw [List.map_append]; rfl, pairsD_map, MG.prs_zip]
  refine comp_map_wp (fun q : Nat × Nat => D.tup [.int q.1, .int q.2]) (fun q => encT (MP.mk (MG.pick (0, 0, 0) R q))) _ (fun q hq => ?_) ?_
  · obtain ⟨h1, h2⟩ := MG.prs_mem _ _ _ hq
    have h3 := MG.prs_lt _ _ (MG.begs_sorted MP.same (0, 0, 0) R) q hq
    have h4 := MG.begs_lt MP.same (0, 0, 0) h1
    have h5 : q.2 ≤ R.length := by
      rcases h2 with h2 | h2
      · exact Nat.le_of_lt (MG.begs_lt MP.same (0, 0, 0) h2)
      · omega
    unfold cStep
    push_cast [wAt_map (enc := encT) (k := (q.1 : Int)) rfl (gz h4), wAt_map (enc := encT) (k := (q.2 : Int) - 1) (n := q.2 - 1) (by omega) (gz (by omega)), encT]
    rfl
  have ej : (MG.prs (MG.begs MP.same (0, 0, 0) R) R.length).map (fun q => encT (MP.mk (MG.pick (0, 0, 0) R q))) = (MP.jn R).map encT := by
    unfold MP.jn
    rw [← (MG.begs_grp MP.same (0, 0, 0) R).1, List.map_map, List.map_map]
    rfl
  rw [ej]
  push_cast
  refine comp_fil_wp encT (fun r => decide (0 < r.2.2)) encT (MP.jn R) (fun r hr => ?_) ?_
  · unfold cStep
    push_cast [encT]
    exact ⟨fun q => by rw [decide_eq_true q]; rfl, fun q => by rw [decide_eq_false q]; rfl⟩
  have ef : (MP.jn R).filter (fun r => decide (0 < r.2.2)) = MP.fin l := by unfold MP.fin; rw [eR]
  rw [ef]
  push_cast [wret_flat (show (D.lst ((MP.fin l).map encT)).flat = true by rw [fl_lst]; exact fl_ts)]
end

end K12
end
section
set_option maxHeartbeats 4000000
set_option exponentiation.threshold 3000
namespace K12
open PySem PySem.Spec L2 DL
open PyProof.Rows hiding St
open Lean in
local macro_rules | `(tactic| push_cast [$ts,*]) => `(tactic| simp only [↓DL.r0, ↓DL.r1, ↓DL.r2, ↓DL.r3, ↓DL.r4, ↓DL.r5, ↓DL.r6, ↓DL.r7, ↓DL.r8, ↓DL.r9, ↓DL.r10, ↓DL.r11, ↓DL.r12, ↓DL.r13, ↓DL.r14, ↓DL.r15, ↓DL.r16, ↓DL.r17, ↓DL.r18, ↓DL.r19, ↓DL.r20, ↓DL.r21, ↓DL.r22, ↓DL.r23, ↓DL.r24, ↓DL.r25, ↓DL.r26, ↓DL.r27, ↓DL.r28, ↓DL.r29, DL.s0, DL.s1, DL.s2, DL.s3, DL.s4, DL.s5, DL.s6, DL.s7, DL.s8, DL.s9, DL.s10, DL.s11, DL.s12, DL.s13, DL.s14, DL.s15, DL.s16, DL.s17, DL.s18, DL.s19, DL.s20, DL.s21, DL.s22, DL.s23, DL.s24, DL.s25, DL.s26, DL.s27, DL.s28, DL.s29, DL.startD_cons, DL.startD_nil, DL.startD_zero, ↓DL.w_ok, ↓DL.w_some, ↓DL.w_somec, ↓DL.w_bind, ↓DL.w_opt, ↓DL.w_chg, ↓DL.w_kon, ↓DL.w_calm, ↓DL.w_b2, ↓DL.w_b2L, ↓DL.w_b1, ↓DL.wB_bl, ↓DL.w_asB, ↓DL.w_b2T, ↓DL.w_chE, ↓DL.w_chT, ↓DL.w_not, ↓DL.w_val, ↓DL.w_notE, ↓DL.w_ifE, ↓DL.w_ifL, ↓DL.w_andM, ↓DL.w_orM, ↓DL.w_andE, ↓DL.w_orE, ↓DL.w_nil, ↓DL.w_cons, ↓DL.w_tup, ↓DL.w_lst, ↓DL.w_frz, ↓DL.w_new, ↓DL.w_cel, ↓DL.w_cb, ↓DL.w_cbL, ↓DL.w_call, ↓DL.w_callL, ↓DL.w_ar0, ↓DL.w_ar1, ↓DL.w_ar2, ↓DL.w_ar3, ↓DL.w_ar4, ↓DL.w_ar5, ↓DL.w_ar6, ↓DL.w_noO, ↓DL.w_smO, ↓DL.w_sl, ↓DL.w_slL, ↓DL.w_rev, ↓DL.w_step, ↓DL.w_isi, ↓DL.w_sets, ↓DL.w_lrg, ↓DL.w_mth, ↓DL.w_mth0, ↓DL.w_itS, ↓DL.w_itR1, ↓DL.w_itR2, ↓DL.w_itR3, ↓DL.w_itZ, ↓DL.w_itN, ↓DL.w_lc, ↓DL.w_nx, ↓DL.w_rt, ↓DL.w_seq, ↓DL.w_set, ↓DL.wPar_2, ↓DL.w_par, ↓DL.w_aug, ↓DL.w_sto, ↓DL.w_exp, ↓DL.w_ret, ↓DL.w_retN, ↓DL.w_nxS, ↓DL.w_ifS, ↓DL.w_for, ↓DL.w_asg, ↓DL.w_stk, ↓DL.w_body, ↓DL.w_bodyL, ↓DL.wret_non, ↓DL.wret_bl, ↓DL.wret_int, ↓DL.wret_str, ↓DL.wif_t, ↓DL.wif_f, ↓DL.wif_d, ↓DL.wif_n, ↓DL.wif_a, ↓DL.wif_o, DL.few0, DL.few1, DL.few2, DL.few3, DL.few4, DL.few5, DL.few6, DL.few7, DL.few8, DL.few9, DL.few10, true_and, and_true, ↓DL.a_nm, ↓DL.a_tp1, ↓DL.a_tp2, ↓DL.a_tp3, ↓DL.a_tp4, ↓DL.a_tp5, ↓DL.a_tpn, ↓DL.a_tpm, ↓DL.a_encP, DL.wipe_nil, DL.wipe_cons, DL.o_add, DL.o_sub, DL.o_neg, ↓DL.o_mul, ↓DL.o_div, ↓DL.o_mod, DL.o_pow, ↓DL.o_p10_3, ↓DL.o_p10_4, ↓DL.o_p10_6, ↓DL.o_p10_8, ↓DL.o_p10_9, ↓DL.o_p10_12, ↓DL.o_p10_15, ↓DL.o_p10_18, ↓DL.o_p10_20, ↓DL.o_p10_25, ↓DL.o_p10_26, ↓DL.o_p10_27, ↓DL.o_p10_28, ↓DL.o_p10_29, ↓DL.o_p10_30, ↓DL.o_p10_31, ↓DL.o_p10_36, ↓DL.o_p10_38, ↓DL.o_p10_40, ↓DL.o_p10_42, ↓DL.o_p10_44, ↓DL.o_p10_46, ↓DL.o_p10_48, ↓DL.o_p10_50, ↓DL.o_p10_60, ↓DL.o_p10_64, ↓DL.o_p10_70, ↓DL.o_p10_90, ↓DL.o_p10_99, ↓DL.o_p10_100, ↓DL.o_addS, ↓DL.o_addT, ↓DL.o_catL, ↓DL.o_addL, DL.o_lt, DL.o_le, DL.o_gt, DL.o_ge, DL.o_eqI, DL.o_neI, DL.o_eqS, DL.o_neS, DL.o_is, DL.o_isn, DL.n_non, DL.n_bl, DL.n_int, DL.n_str, DL.n_lst, DL.n_tup, DL.n_ref, DL.n_obj, DL.i_non_int, DL.i_non_bool, DL.i_non_str, DL.i_non_list, DL.i_non_tuple, DL.i_bl_int, DL.i_bl_bool, DL.i_bl_str, DL.i_bl_list, DL.i_bl_tuple, DL.i_int_int, DL.i_int_bool, DL.i_int_str, DL.i_int_list, DL.i_int_tuple, DL.i_str_int, DL.i_str_bool, DL.i_str_str, DL.i_str_list, DL.i_str_tuple, DL.i_lst_int, DL.i_lst_bool, DL.i_lst_str, DL.i_lst_list, DL.i_lst_tuple, DL.i_tup_int, DL.i_tup_bool, DL.i_tup_str, DL.i_tup_list, DL.i_tup_tuple, DL.t_non, DL.t_bl, DL.t_int, DL.t_lst, DL.t_tup, ↓DL.x_lst, ↓DL.x_tup, ↓DL.x_encP0, ↓DL.x_encP1, DL.ixn1_0, DL.ixn1_m1, DL.ixn2_0, DL.ixn2_1, DL.ixn2_m1, DL.ixn3_0, DL.ixn3_1, DL.ixn3_2, DL.ixn3_m1, DL.ixn4_0, DL.ixn4_1, DL.ixn4_2, DL.ixn4_3, DL.ixn4_m1, DL.ixn5_0, DL.ixn5_1, DL.ixn5_2, DL.ixn5_3, DL.ixn5_4, DL.ixn5_m1, DL.ixn6_0, DL.ixn6_1, DL.ixn6_2, DL.ixn6_3, DL.ixn6_4, DL.ixn6_5, DL.ixn6_m1, DL.ixn7_0, DL.ixn7_1, DL.ixn7_2, DL.ixn7_3, DL.ixn7_4, DL.ixn7_5, DL.ixn7_6, DL.ixn7_m1, DL.ixn8_0, DL.ixn8_1, DL.ixn8_2, DL.ixn8_3, DL.ixn8_4, DL.ixn8_5, DL.ixn8_6, DL.ixn8_7, DL.ixn8_m1, ↓DL.x1_0, ↓DL.x1_m1, ↓DL.x2_0, ↓DL.x2_1, ↓DL.x2_m1, ↓DL.x3_0, ↓DL.x3_1, ↓DL.x3_2, ↓DL.x3_m1, ↓DL.x4_0, ↓DL.x4_1, ↓DL.x4_2, ↓DL.x4_3, ↓DL.x4_m1, ↓DL.x5_0, ↓DL.x5_1, ↓DL.x5_2, ↓DL.x5_3, ↓DL.x5_4, ↓DL.x5_m1, ↓DL.x6_0, ↓DL.x6_1, ↓DL.x6_2, ↓DL.x6_3, ↓DL.x6_4, ↓DL.x6_5, ↓DL.x6_m1, ↓DL.x7_0, ↓DL.x7_1, ↓DL.x7_2, ↓DL.x7_3, ↓DL.x7_4, ↓DL.x7_5, ↓DL.x7_6, ↓DL.x7_m1, ↓DL.x8_0, ↓DL.x8_1, ↓DL.x8_2, ↓DL.x8_3, ↓DL.x8_4, ↓DL.x8_5, ↓DL.x8_6, ↓DL.x8_7, ↓DL.x8_m1, DL.c_abs, DL.c_max2, DL.c_min2, DL.c_int, DL.c_intb, DL.c_lenS, DL.c_lenT, DL.c_lenL, DL.c_listT, DL.c_listL, DL.c_tupT, DL.c_tupL, DL.c_sum, DL.c_sum0, DL.c_all, DL.c_any, DL.c_minP, DL.c_maxP, DL.c_sortP, DL.c_zip, DL.c_enum, DL.c_range1, DL.c_range2, DL.g_lst, DL.g_tup, DL.g_str, DL.p_int, DL.sq_lst, DL.sl_lst, DL.sl_tup, DL.sl_str, DL.slL_lst, DL.om_some, List.set_cons_zero, List.set_cons_succ, DL.m_tyL, DL.m_tyS, DL.m_ty, DL.m_app, DL.m_sto, DL.m_fzL, DL.m_fzI, DL.m_fzT, DL.m_fz, DL.x_ref, DL.c_lenR, DL.c_listR, DL.c_tupR, DL.sl_ref, DL.atL_new, DL.atL_new1, DL.atL_new2, DL.atL_old, DL.set_new, DL.set_new1, DL.set_new2, DL.set_old, DL.take_app, DL.app_app, DL.cons_app, DL.nil_app, DL.len_app1, DL.len_app2, DL.len_app3, DL.len_set, DL.seq_new, DL.seq_new1, DL.seq_new2, DL.seq_old, DL.ex_some, DL.fl_non, DL.fl_int, DL.fl_bl, DL.fl_str, DL.fl_tup, DL.fl_lst, DL.fl_obj, DL.fl_nil, DL.fl_cons, DL.fl_app, DL.fl_encP, Bool.and_self, Bool.and_true, Bool.true_and, List.set_set, ↓DL.w_yes, ↓DL.w_fld, ↓DL.w_mt, ↓DL.w_mtL, ↓DL.w_mt0, ↓DL.w_mt0L, ↓DL.w_ic, DL.isO_obj, ↓DL.w_make, ↓DL.w_b2M, ↓DL.w_b2MT, DL.c_intU, DL.c_intbU, ↓DL.w_mthL, ↓DL.w_uM, ↓DL.w_inv, ↓DL.w_bin_obj, ↓DL.w_bin_int, ↓DL.w_fldS, DL.m_fld, DL.atI_new, DL.putD, ↓DL.w_repL, ↓DL.w_isiC, ↓DL.w_par3, ↓DL.wPar3_3, DL.m_count, DL.wretL_new, DL.wret_new, ↓DL.c_setSort, DL.o_addI, DL.o_inS, DL.o_ninS, ↓DL.c_str, ↓DL.c_intSw, ↓DL.m_ext, DL.slt_l, DL.slt_t, DL.slt_r, ↓DL.c_dm, ↓DL.c_split, ↓DL.c_join, ↓DL.c_rep, ↓DL.x_str, ↓DL.o_catRL, ↓DL.o_addRL, ↓DL.wret_tup, ↓DL.wret_lst, List.take_length, List.length_cons, List.length_nil, List.length_map, Int.cast_ofNat_Int, Bool.not_true, Bool.not_false, Int.reduceAdd, Int.reduceSub, Int.reduceMul, Int.reduceNeg, Int.reduceEq, Int.reduceLT, Int.reduceLE, Nat.reduceAdd, Nat.reduceSub, eq_self, not_true_eq_false, not_false_eq_true, false_implies, implies_true, true_implies, ff_Profile_own_cold, ff_Profile_own_pieces, fm_Profile_pieces, fm_Profile_accesses, fm_Profile_cold, isf_Profile_Profile, isf_Profile_0s, isf_Profile_0i, isf_Profile_0l, isf_Profile_0t, isf_Profile_0n, isf_Profile_0b, isf_Profile_0d, $ts,*])
open Lean in
local macro_rules | `(tactic| push_cast) => `(tactic| simp only [↓DL.r0, ↓DL.r1, ↓DL.r2, ↓DL.r3, ↓DL.r4, ↓DL.r5, ↓DL.r6, ↓DL.r7, ↓DL.r8, ↓DL.r9, ↓DL.r10, ↓DL.r11, ↓DL.r12, ↓DL.r13, ↓DL.r14, ↓DL.r15, ↓DL.r16, ↓DL.r17, ↓DL.r18, ↓DL.r19, ↓DL.r20, ↓DL.r21, ↓DL.r22, ↓DL.r23, ↓DL.r24, ↓DL.r25, ↓DL.r26, ↓DL.r27, ↓DL.r28, ↓DL.r29, DL.s0, DL.s1, DL.s2, DL.s3, DL.s4, DL.s5, DL.s6, DL.s7, DL.s8, DL.s9, DL.s10, DL.s11, DL.s12, DL.s13, DL.s14, DL.s15, DL.s16, DL.s17, DL.s18, DL.s19, DL.s20, DL.s21, DL.s22, DL.s23, DL.s24, DL.s25, DL.s26, DL.s27, DL.s28, DL.s29, DL.startD_cons, DL.startD_nil, DL.startD_zero, ↓DL.w_ok, ↓DL.w_some, ↓DL.w_somec, ↓DL.w_bind, ↓DL.w_opt, ↓DL.w_chg, ↓DL.w_kon, ↓DL.w_calm, ↓DL.w_b2, ↓DL.w_b2L, ↓DL.w_b1, ↓DL.wB_bl, ↓DL.w_asB, ↓DL.w_b2T, ↓DL.w_chE, ↓DL.w_chT, ↓DL.w_not, ↓DL.w_val, ↓DL.w_notE, ↓DL.w_ifE, ↓DL.w_ifL, ↓DL.w_andM, ↓DL.w_orM, ↓DL.w_andE, ↓DL.w_orE, ↓DL.w_nil, ↓DL.w_cons, ↓DL.w_tup, ↓DL.w_lst, ↓DL.w_frz, ↓DL.w_new, ↓DL.w_cel, ↓DL.w_cb, ↓DL.w_cbL, ↓DL.w_call, ↓DL.w_callL, ↓DL.w_ar0, ↓DL.w_ar1, ↓DL.w_ar2, ↓DL.w_ar3, ↓DL.w_ar4, ↓DL.w_ar5, ↓DL.w_ar6, ↓DL.w_noO, ↓DL.w_smO, ↓DL.w_sl, ↓DL.w_slL, ↓DL.w_rev, ↓DL.w_step, ↓DL.w_isi, ↓DL.w_sets, ↓DL.w_lrg, ↓DL.w_mth, ↓DL.w_mth0, ↓DL.w_itS, ↓DL.w_itR1, ↓DL.w_itR2, ↓DL.w_itR3, ↓DL.w_itZ, ↓DL.w_itN, ↓DL.w_lc, ↓DL.w_nx, ↓DL.w_rt, ↓DL.w_seq, ↓DL.w_set, ↓DL.wPar_2, ↓DL.w_par, ↓DL.w_aug, ↓DL.w_sto, ↓DL.w_exp, ↓DL.w_ret, ↓DL.w_retN, ↓DL.w_nxS, ↓DL.w_ifS, ↓DL.w_for, ↓DL.w_asg, ↓DL.w_stk, ↓DL.w_body, ↓DL.w_bodyL, ↓DL.wret_non, ↓DL.wret_bl, ↓DL.wret_int, ↓DL.wret_str, ↓DL.wif_t, ↓DL.wif_f, ↓DL.wif_d, ↓DL.wif_n, ↓DL.wif_a, ↓DL.wif_o, DL.few0, DL.few1, DL.few2, DL.few3, DL.few4, DL.few5, DL.few6, DL.few7, DL.few8, DL.few9, DL.few10, true_and, and_true, ↓DL.a_nm, ↓DL.a_tp1, ↓DL.a_tp2, ↓DL.a_tp3, ↓DL.a_tp4, ↓DL.a_tp5, ↓DL.a_tpn, ↓DL.a_tpm, ↓DL.a_encP, DL.wipe_nil, DL.wipe_cons, DL.o_add, DL.o_sub, DL.o_neg, ↓DL.o_mul, ↓DL.o_div, ↓DL.o_mod, DL.o_pow, ↓DL.o_p10_3, ↓DL.o_p10_4, ↓DL.o_p10_6, ↓DL.o_p10_8, ↓DL.o_p10_9, ↓DL.o_p10_12, ↓DL.o_p10_15, ↓DL.o_p10_18, ↓DL.o_p10_20, ↓DL.o_p10_25, ↓DL.o_p10_26, ↓DL.o_p10_27, ↓DL.o_p10_28, ↓DL.o_p10_29, ↓DL.o_p10_30, ↓DL.o_p10_31, ↓DL.o_p10_36, ↓DL.o_p10_38, ↓DL.o_p10_40, ↓DL.o_p10_42, ↓DL.o_p10_44, ↓DL.o_p10_46, ↓DL.o_p10_48, ↓DL.o_p10_50, ↓DL.o_p10_60, ↓DL.o_p10_64, ↓DL.o_p10_70, ↓DL.o_p10_90, ↓DL.o_p10_99, ↓DL.o_p10_100, ↓DL.o_addS, ↓DL.o_addT, ↓DL.o_catL, ↓DL.o_addL, DL.o_lt, DL.o_le, DL.o_gt, DL.o_ge, DL.o_eqI, DL.o_neI, DL.o_eqS, DL.o_neS, DL.o_is, DL.o_isn, DL.n_non, DL.n_bl, DL.n_int, DL.n_str, DL.n_lst, DL.n_tup, DL.n_ref, DL.n_obj, DL.i_non_int, DL.i_non_bool, DL.i_non_str, DL.i_non_list, DL.i_non_tuple, DL.i_bl_int, DL.i_bl_bool, DL.i_bl_str, DL.i_bl_list, DL.i_bl_tuple, DL.i_int_int, DL.i_int_bool, DL.i_int_str, DL.i_int_list, DL.i_int_tuple, DL.i_str_int, DL.i_str_bool, DL.i_str_str, DL.i_str_list, DL.i_str_tuple, DL.i_lst_int, DL.i_lst_bool, DL.i_lst_str, DL.i_lst_list, DL.i_lst_tuple, DL.i_tup_int, DL.i_tup_bool, DL.i_tup_str, DL.i_tup_list, DL.i_tup_tuple, DL.t_non, DL.t_bl, DL.t_int, DL.t_lst, DL.t_tup, ↓DL.x_lst, ↓DL.x_tup, ↓DL.x_encP0, ↓DL.x_encP1, DL.ixn1_0, DL.ixn1_m1, DL.ixn2_0, DL.ixn2_1, DL.ixn2_m1, DL.ixn3_0, DL.ixn3_1, DL.ixn3_2, DL.ixn3_m1, DL.ixn4_0, DL.ixn4_1, DL.ixn4_2, DL.ixn4_3, DL.ixn4_m1, DL.ixn5_0, DL.ixn5_1, DL.ixn5_2, DL.ixn5_3, DL.ixn5_4, DL.ixn5_m1, DL.ixn6_0, DL.ixn6_1, DL.ixn6_2, DL.ixn6_3, DL.ixn6_4, DL.ixn6_5, DL.ixn6_m1, DL.ixn7_0, DL.ixn7_1, DL.ixn7_2, DL.ixn7_3, DL.ixn7_4, DL.ixn7_5, DL.ixn7_6, DL.ixn7_m1, DL.ixn8_0, DL.ixn8_1, DL.ixn8_2, DL.ixn8_3, DL.ixn8_4, DL.ixn8_5, DL.ixn8_6, DL.ixn8_7, DL.ixn8_m1, ↓DL.x1_0, ↓DL.x1_m1, ↓DL.x2_0, ↓DL.x2_1, ↓DL.x2_m1, ↓DL.x3_0, ↓DL.x3_1, ↓DL.x3_2, ↓DL.x3_m1, ↓DL.x4_0, ↓DL.x4_1, ↓DL.x4_2, ↓DL.x4_3, ↓DL.x4_m1, ↓DL.x5_0, ↓DL.x5_1, ↓DL.x5_2, ↓DL.x5_3, ↓DL.x5_4, ↓DL.x5_m1, ↓DL.x6_0, ↓DL.x6_1, ↓DL.x6_2, ↓DL.x6_3, ↓DL.x6_4, ↓DL.x6_5, ↓DL.x6_m1, ↓DL.x7_0, ↓DL.x7_1, ↓DL.x7_2, ↓DL.x7_3, ↓DL.x7_4, ↓DL.x7_5, ↓DL.x7_6, ↓DL.x7_m1, ↓DL.x8_0, ↓DL.x8_1, ↓DL.x8_2, ↓DL.x8_3, ↓DL.x8_4, ↓DL.x8_5, ↓DL.x8_6, ↓DL.x8_7, ↓DL.x8_m1, DL.c_abs, DL.c_max2, DL.c_min2, DL.c_int, DL.c_intb, DL.c_lenS, DL.c_lenT, DL.c_lenL, DL.c_listT, DL.c_listL, DL.c_tupT, DL.c_tupL, DL.c_sum, DL.c_sum0, DL.c_all, DL.c_any, DL.c_minP, DL.c_maxP, DL.c_sortP, DL.c_zip, DL.c_enum, DL.c_range1, DL.c_range2, DL.g_lst, DL.g_tup, DL.g_str, DL.p_int, DL.sq_lst, DL.sl_lst, DL.sl_tup, DL.sl_str, DL.slL_lst, DL.om_some, List.set_cons_zero, List.set_cons_succ, DL.m_tyL, DL.m_tyS, DL.m_ty, DL.m_app, DL.m_sto, DL.m_fzL, DL.m_fzI, DL.m_fzT, DL.m_fz, DL.x_ref, DL.c_lenR, DL.c_listR, DL.c_tupR, DL.sl_ref, DL.atL_new, DL.atL_new1, DL.atL_new2, DL.atL_old, DL.set_new, DL.set_new1, DL.set_new2, DL.set_old, DL.take_app, DL.app_app, DL.cons_app, DL.nil_app, DL.len_app1, DL.len_app2, DL.len_app3, DL.len_set, DL.seq_new, DL.seq_new1, DL.seq_new2, DL.seq_old, DL.ex_some, DL.fl_non, DL.fl_int, DL.fl_bl, DL.fl_str, DL.fl_tup, DL.fl_lst, DL.fl_obj, DL.fl_nil, DL.fl_cons, DL.fl_app, DL.fl_encP, Bool.and_self, Bool.and_true, Bool.true_and, List.set_set, ↓DL.w_yes, ↓DL.w_fld, ↓DL.w_mt, ↓DL.w_mtL, ↓DL.w_mt0, ↓DL.w_mt0L, ↓DL.w_ic, DL.isO_obj, ↓DL.w_make, ↓DL.w_b2M, ↓DL.w_b2MT, DL.c_intU, DL.c_intbU, ↓DL.w_mthL, ↓DL.w_uM, ↓DL.w_inv, ↓DL.w_bin_obj, ↓DL.w_bin_int, ↓DL.w_fldS, DL.m_fld, DL.atI_new, DL.putD, ↓DL.w_repL, ↓DL.w_isiC, ↓DL.w_par3, ↓DL.wPar3_3, DL.m_count, DL.wretL_new, DL.wret_new, ↓DL.c_setSort, DL.o_addI, DL.o_inS, DL.o_ninS, ↓DL.c_str, ↓DL.c_intSw, ↓DL.m_ext, DL.slt_l, DL.slt_t, DL.slt_r, ↓DL.c_dm, ↓DL.c_split, ↓DL.c_join, ↓DL.c_rep, ↓DL.x_str, ↓DL.o_catRL, ↓DL.o_addRL, ↓DL.wret_tup, ↓DL.wret_lst, List.take_length, List.length_cons, List.length_nil, List.length_map, Int.cast_ofNat_Int, Bool.not_true, Bool.not_false, Int.reduceAdd, Int.reduceSub, Int.reduceMul, Int.reduceNeg, Int.reduceEq, Int.reduceLT, Int.reduceLE, Nat.reduceAdd, Nat.reduceSub, eq_self, not_true_eq_false, not_false_eq_true, false_implies, implies_true, true_implies, ff_Profile_own_cold, ff_Profile_own_pieces, fm_Profile_pieces, fm_Profile_accesses, fm_Profile_cold, isf_Profile_Profile, isf_Profile_0s, isf_Profile_0i, isf_Profile_0l, isf_Profile_0t, isf_Profile_0n, isf_Profile_0b, isf_Profile_0d])
def prof (c : Int) (J : List MP.T) : D := .obj 0 [.int c, .tup (J.map encT)]
section
variable {S : Cells}
theorem asc_zip : ∀ {lo : Int} {l : List MP.T}, MP.Asc lo l → ∀ q ∈ l.zip (l.drop 1), q.1.2.1 < q.2.1
  | _, [], _, q, h => by simp at h
  | _, [r], _, q, h => by simp at h
  | _, r :: s :: l, h, q, hq => by
    have hq : q ∈ (r, s) :: (s :: l).zip ((s :: l).drop 1) := hq
    rcases List.mem_cons.mp hq with e | hq
    · subst e
      have := h.2.2.2.1
      show r.2.1 < s.1
      omega
    · exact asc_zip h.2.2.2 q hq
theorem are_pieces_ok {l : List MP.T} (h : MP.Asc 1 l) : g_are_pieces [.lst (l.map encT)] S = .ok (.bl true) S := by
  refine wp_ok ?_
  push_cast [g_are_pieces, B_are_pieces]
  refine comp_map_wp encT (fun _ => .bl true) l (fun p hp => ?_) ?_
  · have := h.mem p hp
    unfold cStep
    push_cast [is_piece_ok (p := p) (by omega)]
  push_cast
  refine ⟨fun q => ?_, fun q => ?_⟩
  · push_cast [cut_1]
    rw [← List.map_drop, pairsD_map]
    refine comp_map_wp (fun q : MP.T × MP.T => D.tup [encT q.1, encT q.2]) (fun q => .bl (decide (q.1.2.1 < q.2.1))) _ (fun q hq => ?_) ?_
    · unfold cStep
      push_cast
      push_cast [encT]
    push_cast
    rw [List.all_eq_true.mpr fun q hq => decide_eq_true (asc_zip h q hq)]
  · rw [List.all_eq_true.mpr fun _ _ => rfl] at q
    cases q
theorem make_ok {c : Int} {l : List MP.T} (hc : 0 ≤ c) (h : MP.Asc 1 l) (hz : l.length ≤ 10000) : makeD NMf 0 3 g_Profile___init__ [.int c, .lst (l.map encT)] S = .ok (prof c (MP.fin l)) S := by
  refine wp_ok (make_wp rfl ?_)
  push_cast [g_Profile___init__, B_Profile___init__, in_range_lo hc, are_pieces_ok h, joined_ok hz]
  have ne : ¬ (Str.ofString "own_cold" = Str.ofString "own_pieces") := by decide +kernel
  rw [if_neg ne, List.take_of_length_le (by simp)]
  refine ⟨⟨by decide, by decide⟩, ⟨by decide, fl_ts, by decide⟩, true, [("own_cold", .int c), ("own_pieces", .tup ((MP.fin l).map encT))], by simp, rfl, rfl, take_app rfl⟩
/-- numbers of fewer than sixty digits -/
def Sm (i : Int) : Prop := -(10 ^ 60) < i ∧ i < 10 ^ 60
theorem sm_mul {i j : Int} (hi : Sm i) (hj : Sm j) : okMul i j = true := okMul_of 200 200 (by have := hi.1; have := hi.2; omega) (by have := hj.1; have := hj.2; omega) (by decide)
end

end K12
end
section
set_option maxHeartbeats 4000000
set_option exponentiation.threshold 3000
namespace K12
open PySem PySem.Spec L2 DL
open PyProof.Rows hiding St
open Lean in
local macro_rules | `(tactic| push_cast [$ts,*]) => `(tactic| simp only [↓DL.r0, ↓DL.r1, ↓DL.r2, ↓DL.r3, ↓DL.r4, ↓DL.r5, ↓DL.r6, ↓DL.r7, ↓DL.r8, ↓DL.r9, ↓DL.r10, ↓DL.r11, ↓DL.r12, ↓DL.r13, ↓DL.r14, ↓DL.r15, ↓DL.r16, ↓DL.r17, ↓DL.r18, ↓DL.r19, ↓DL.r20, ↓DL.r21, ↓DL.r22, ↓DL.r23, ↓DL.r24, ↓DL.r25, ↓DL.r26, ↓DL.r27, ↓DL.r28, ↓DL.r29, DL.s0, DL.s1, DL.s2, DL.s3, DL.s4, DL.s5, DL.s6, DL.s7, DL.s8, DL.s9, DL.s10, DL.s11, DL.s12, DL.s13, DL.s14, DL.s15, DL.s16, DL.s17, DL.s18, DL.s19, DL.s20, DL.s21, DL.s22, DL.s23, DL.s24, DL.s25, DL.s26, DL.s27, DL.s28, DL.s29, DL.startD_cons, DL.startD_nil, DL.startD_zero, ↓DL.w_ok, ↓DL.w_some, ↓DL.w_somec, ↓DL.w_bind, ↓DL.w_opt, ↓DL.w_chg, ↓DL.w_kon, ↓DL.w_calm, ↓DL.w_b2, ↓DL.w_b2L, ↓DL.w_b1, ↓DL.wB_bl, ↓DL.w_asB, ↓DL.w_b2T, ↓DL.w_chE, ↓DL.w_chT, ↓DL.w_not, ↓DL.w_val, ↓DL.w_notE, ↓DL.w_ifE, ↓DL.w_ifL, ↓DL.w_andM, ↓DL.w_orM, ↓DL.w_andE, ↓DL.w_orE, ↓DL.w_nil, ↓DL.w_cons, ↓DL.w_tup, ↓DL.w_lst, ↓DL.w_frz, ↓DL.w_new, ↓DL.w_cel, ↓DL.w_cb, ↓DL.w_cbL, ↓DL.w_call, ↓DL.w_callL, ↓DL.w_ar0, ↓DL.w_ar1, ↓DL.w_ar2, ↓DL.w_ar3, ↓DL.w_ar4, ↓DL.w_ar5, ↓DL.w_ar6, ↓DL.w_noO, ↓DL.w_smO, ↓DL.w_sl, ↓DL.w_slL, ↓DL.w_rev, ↓DL.w_step, ↓DL.w_isi, ↓DL.w_sets, ↓DL.w_lrg, ↓DL.w_mth, ↓DL.w_mth0, ↓DL.w_itS, ↓DL.w_itR1, ↓DL.w_itR2, ↓DL.w_itR3, ↓DL.w_itZ, ↓DL.w_itN, ↓DL.w_lc, ↓DL.w_nx, ↓DL.w_rt, ↓DL.w_seq, ↓DL.w_set, ↓DL.wPar_2, ↓DL.w_par, ↓DL.w_aug, ↓DL.w_sto, ↓DL.w_exp, ↓DL.w_ret, ↓DL.w_retN, ↓DL.w_nxS, ↓DL.w_ifS, ↓DL.w_for, ↓DL.w_asg, ↓DL.w_stk, ↓DL.w_body, ↓DL.w_bodyL, ↓DL.wret_non, ↓DL.wret_bl, ↓DL.wret_int, ↓DL.wret_str, ↓DL.wif_t, ↓DL.wif_f, ↓DL.wif_d, ↓DL.wif_n, ↓DL.wif_a, ↓DL.wif_o, DL.few0, DL.few1, DL.few2, DL.few3, DL.few4, DL.few5, DL.few6, DL.few7, DL.few8, DL.few9, DL.few10, true_and, and_true, ↓DL.a_nm, ↓DL.a_tp1, ↓DL.a_tp2, ↓DL.a_tp3, ↓DL.a_tp4, ↓DL.a_tp5, ↓DL.a_tpn, ↓DL.a_tpm, ↓DL.a_encP, DL.wipe_nil, DL.wipe_cons, DL.o_add, DL.o_sub, DL.o_neg, ↓DL.o_mul, ↓DL.o_div, ↓DL.o_mod, DL.o_pow, ↓DL.o_p10_3, ↓DL.o_p10_4, ↓DL.o_p10_6, ↓DL.o_p10_8, ↓DL.o_p10_9, ↓DL.o_p10_12, ↓DL.o_p10_15, ↓DL.o_p10_18, ↓DL.o_p10_20, ↓DL.o_p10_25, ↓DL.o_p10_26, ↓DL.o_p10_27, ↓DL.o_p10_28, ↓DL.o_p10_29, ↓DL.o_p10_30, ↓DL.o_p10_31, ↓DL.o_p10_36, ↓DL.o_p10_38, ↓DL.o_p10_40, ↓DL.o_p10_42, ↓DL.o_p10_44, ↓DL.o_p10_46, ↓DL.o_p10_48, ↓DL.o_p10_50, ↓DL.o_p10_60, ↓DL.o_p10_64, ↓DL.o_p10_70, ↓DL.o_p10_90, ↓DL.o_p10_99, ↓DL.o_p10_100, ↓DL.o_addS, ↓DL.o_addT, ↓DL.o_catL, ↓DL.o_addL, DL.o_lt, DL.o_le, DL.o_gt, DL.o_ge, DL.o_eqI, DL.o_neI, DL.o_eqS, DL.o_neS, DL.o_is, DL.o_isn, DL.n_non, DL.n_bl, DL.n_int, DL.n_str, DL.n_lst, DL.n_tup, DL.n_ref, DL.n_obj, DL.i_non_int, DL.i_non_bool, DL.i_non_str, DL.i_non_list, DL.i_non_tuple, DL.i_bl_int, DL.i_bl_bool, DL.i_bl_str, DL.i_bl_list, DL.i_bl_tuple, DL.i_int_int, DL.i_int_bool, DL.i_int_str, DL.i_int_list, DL.i_int_tuple, DL.i_str_int, DL.i_str_bool, DL.i_str_str, DL.i_str_list, DL.i_str_tuple, DL.i_lst_int, DL.i_lst_bool, DL.i_lst_str, DL.i_lst_list, DL.i_lst_tuple, DL.i_tup_int, DL.i_tup_bool, DL.i_tup_str, DL.i_tup_list, DL.i_tup_tuple, DL.t_non, DL.t_bl, DL.t_int, DL.t_lst, DL.t_tup, ↓DL.x_lst, ↓DL.x_tup, ↓DL.x_encP0, ↓DL.x_encP1, DL.ixn1_0, DL.ixn1_m1, DL.ixn2_0, DL.ixn2_1, DL.ixn2_m1, DL.ixn3_0, DL.ixn3_1, DL.ixn3_2, DL.ixn3_m1, DL.ixn4_0, DL.ixn4_1, DL.ixn4_2, DL.ixn4_3, DL.ixn4_m1, DL.ixn5_0, DL.ixn5_1, DL.ixn5_2, DL.ixn5_3, DL.ixn5_4, DL.ixn5_m1, DL.ixn6_0, DL.ixn6_1, DL.ixn6_2, DL.ixn6_3, DL.ixn6_4, DL.ixn6_5, DL.ixn6_m1, DL.ixn7_0, DL.ixn7_1, DL.ixn7_2, DL.ixn7_3, DL.ixn7_4, DL.ixn7_5, DL.ixn7_6, DL.ixn7_m1, DL.ixn8_0, DL.ixn8_1, DL.ixn8_2, DL.ixn8_3, DL.ixn8_4, DL.ixn8_5, DL.ixn8_6, DL.ixn8_7, DL.ixn8_m1, ↓DL.x1_0, ↓DL.x1_m1, ↓DL.x2_0, ↓DL.x2_1, ↓DL.x2_m1, ↓DL.x3_0, ↓DL.x3_1, ↓DL.x3_2, ↓DL.x3_m1, ↓DL.x4_0, ↓DL.x4_1, ↓DL.x4_2, ↓DL.x4_3, ↓DL.x4_m1, ↓DL.x5_0, ↓DL.x5_1, ↓DL.x5_2, ↓DL.x5_3, ↓DL.x5_4, ↓DL.x5_m1, ↓DL.x6_0, ↓DL.x6_1, ↓DL.x6_2, ↓DL.x6_3, ↓DL.x6_4, ↓DL.x6_5, ↓DL.x6_m1, ↓DL.x7_0, ↓DL.x7_1, ↓DL.x7_2, ↓DL.x7_3, ↓DL.x7_4, ↓DL.x7_5, ↓DL.x7_6, ↓DL.x7_m1, ↓DL.x8_0, ↓DL.x8_1, ↓DL.x8_2, ↓DL.x8_3, ↓DL.x8_4, ↓DL.x8_5, ↓DL.x8_6, ↓DL.x8_7, ↓DL.x8_m1, DL.c_abs, DL.c_max2, DL.c_min2, DL.c_int, DL.c_intb, DL.c_lenS, DL.c_lenT, DL.c_lenL, DL.c_listT, DL.c_listL, DL.c_tupT, DL.c_tupL, DL.c_sum, DL.c_sum0, DL.c_all, DL.c_any, DL.c_minP, DL.c_maxP, DL.c_sortP, DL.c_zip, DL.c_enum, DL.c_range1, DL.c_range2, DL.g_lst, DL.g_tup, DL.g_str, DL.p_int, DL.sq_lst, DL.sl_lst, DL.sl_tup, DL.sl_str, DL.slL_lst, DL.om_some, List.set_cons_zero, List.set_cons_succ, DL.m_tyL, DL.m_tyS, DL.m_ty, DL.m_app, DL.m_sto, DL.m_fzL, DL.m_fzI, DL.m_fzT, DL.m_fz, DL.x_ref, DL.c_lenR, DL.c_listR, DL.c_tupR, DL.sl_ref, DL.atL_new, DL.atL_new1, DL.atL_new2, DL.atL_old, DL.set_new, DL.set_new1, DL.set_new2, DL.set_old, DL.take_app, DL.app_app, DL.cons_app, DL.nil_app, DL.len_app1, DL.len_app2, DL.len_app3, DL.len_set, DL.seq_new, DL.seq_new1, DL.seq_new2, DL.seq_old, DL.ex_some, DL.fl_non, DL.fl_int, DL.fl_bl, DL.fl_str, DL.fl_tup, DL.fl_lst, DL.fl_obj, DL.fl_nil, DL.fl_cons, DL.fl_app, DL.fl_encP, Bool.and_self, Bool.and_true, Bool.true_and, List.set_set, ↓DL.w_yes, ↓DL.w_fld, ↓DL.w_mt, ↓DL.w_mtL, ↓DL.w_mt0, ↓DL.w_mt0L, ↓DL.w_ic, DL.isO_obj, ↓DL.w_make, ↓DL.w_b2M, ↓DL.w_b2MT, DL.c_intU, DL.c_intbU, ↓DL.w_mthL, ↓DL.w_uM, ↓DL.w_inv, ↓DL.w_bin_obj, ↓DL.w_bin_int, ↓DL.w_fldS, DL.m_fld, DL.atI_new, DL.putD, ↓DL.w_repL, ↓DL.w_isiC, ↓DL.w_par3, ↓DL.wPar3_3, DL.m_count, DL.wretL_new, DL.wret_new, ↓DL.c_setSort, DL.o_addI, DL.o_inS, DL.o_ninS, ↓DL.c_str, ↓DL.c_intSw, ↓DL.m_ext, DL.slt_l, DL.slt_t, DL.slt_r, ↓DL.c_dm, ↓DL.c_split, ↓DL.c_join, ↓DL.c_rep, ↓DL.x_str, ↓DL.o_catRL, ↓DL.o_addRL, ↓DL.wret_tup, ↓DL.wret_lst, List.take_length, List.length_cons, List.length_nil, List.length_map, Int.cast_ofNat_Int, Bool.not_true, Bool.not_false, Int.reduceAdd, Int.reduceSub, Int.reduceMul, Int.reduceNeg, Int.reduceEq, Int.reduceLT, Int.reduceLE, Nat.reduceAdd, Nat.reduceSub, eq_self, not_true_eq_false, not_false_eq_true, false_implies, implies_true, true_implies, ff_Profile_own_cold, ff_Profile_own_pieces, fm_Profile_pieces, fm_Profile_accesses, fm_Profile_cold, isf_Profile_Profile, isf_Profile_0s, isf_Profile_0i, isf_Profile_0l, isf_Profile_0t, isf_Profile_0n, isf_Profile_0b, isf_Profile_0d, $ts,*])
open Lean in
local macro_rules | `(tactic| push_cast) => `(tactic| simp only [↓DL.r0, ↓DL.r1, ↓DL.r2, ↓DL.r3, ↓DL.r4, ↓DL.r5, ↓DL.r6, ↓DL.r7, ↓DL.r8, ↓DL.r9, ↓DL.r10, ↓DL.r11, ↓DL.r12, ↓DL.r13, ↓DL.r14, ↓DL.r15, ↓DL.r16, ↓DL.r17, ↓DL.r18, ↓DL.r19, ↓DL.r20, ↓DL.r21, ↓DL.r22, ↓DL.r23, ↓DL.r24, ↓DL.r25, ↓DL.r26, ↓DL.r27, ↓DL.r28, ↓DL.r29, DL.s0, DL.s1, DL.s2, DL.s3, DL.s4, DL.s5, DL.s6, DL.s7, DL.s8, DL.s9, DL.s10, DL.s11, DL.s12, DL.s13, DL.s14, DL.s15, DL.s16, DL.s17, DL.s18, DL.s19, DL.s20, DL.s21, DL.s22, DL.s23, DL.s24, DL.s25, DL.s26, DL.s27, DL.s28, DL.s29, DL.startD_cons, DL.startD_nil, DL.startD_zero, ↓DL.w_ok, ↓DL.w_some, ↓DL.w_somec, ↓DL.w_bind, ↓DL.w_opt, ↓DL.w_chg, ↓DL.w_kon, ↓DL.w_calm, ↓DL.w_b2, ↓DL.w_b2L, ↓DL.w_b1, ↓DL.wB_bl, ↓DL.w_asB, ↓DL.w_b2T, ↓DL.w_chE, ↓DL.w_chT, ↓DL.w_not, ↓DL.w_val, ↓DL.w_notE, ↓DL.w_ifE, ↓DL.w_ifL, ↓DL.w_andM, ↓DL.w_orM, ↓DL.w_andE, ↓DL.w_orE, ↓DL.w_nil, ↓DL.w_cons, ↓DL.w_tup, ↓DL.w_lst, ↓DL.w_frz, ↓DL.w_new, ↓DL.w_cel, ↓DL.w_cb, ↓DL.w_cbL, ↓DL.w_call, ↓DL.w_callL, ↓DL.w_ar0, ↓DL.w_ar1, ↓DL.w_ar2, ↓DL.w_ar3, ↓DL.w_ar4, ↓DL.w_ar5, ↓DL.w_ar6, ↓DL.w_noO, ↓DL.w_smO, ↓DL.w_sl, ↓DL.w_slL, ↓DL.w_rev, ↓DL.w_step, ↓DL.w_isi, ↓DL.w_sets, ↓DL.w_lrg, ↓DL.w_mth, ↓DL.w_mth0, ↓DL.w_itS, ↓DL.w_itR1, ↓DL.w_itR2, ↓DL.w_itR3, ↓DL.w_itZ, ↓DL.w_itN, ↓DL.w_lc, ↓DL.w_nx, ↓DL.w_rt, ↓DL.w_seq, ↓DL.w_set, ↓DL.wPar_2, ↓DL.w_par, ↓DL.w_aug, ↓DL.w_sto, ↓DL.w_exp, ↓DL.w_ret, ↓DL.w_retN, ↓DL.w_nxS, ↓DL.w_ifS, ↓DL.w_for, ↓DL.w_asg, ↓DL.w_stk, ↓DL.w_body, ↓DL.w_bodyL, ↓DL.wret_non, ↓DL.wret_bl, ↓DL.wret_int, ↓DL.wret_str, ↓DL.wif_t, ↓DL.wif_f, ↓DL.wif_d, ↓DL.wif_n, ↓DL.wif_a, ↓DL.wif_o, DL.few0, DL.few1, DL.few2, DL.few3, DL.few4, DL.few5, DL.few6, DL.few7, DL.few8, DL.few9, DL.few10, true_and, and_true, ↓DL.a_nm, ↓DL.a_tp1, ↓DL.a_tp2, ↓DL.a_tp3, ↓DL.a_tp4, ↓DL.a_tp5, ↓DL.a_tpn, ↓DL.a_tpm, ↓DL.a_encP, DL.wipe_nil, DL.wipe_cons, DL.o_add, DL.o_sub, DL.o_neg, ↓DL.o_mul, ↓DL.o_div, ↓DL.o_mod, DL.o_pow, ↓DL.o_p10_3, ↓DL.o_p10_4, ↓DL.o_p10_6, ↓DL.o_p10_8, ↓DL.o_p10_9, ↓DL.o_p10_12, ↓DL.o_p10_15, ↓DL.o_p10_18, ↓DL.o_p10_20, ↓DL.o_p10_25, ↓DL.o_p10_26, ↓DL.o_p10_27, ↓DL.o_p10_28, ↓DL.o_p10_29, ↓DL.o_p10_30, ↓DL.o_p10_31, ↓DL.o_p10_36, ↓DL.o_p10_38, ↓DL.o_p10_40, ↓DL.o_p10_42, ↓DL.o_p10_44, ↓DL.o_p10_46, ↓DL.o_p10_48, ↓DL.o_p10_50, ↓DL.o_p10_60, ↓DL.o_p10_64, ↓DL.o_p10_70, ↓DL.o_p10_90, ↓DL.o_p10_99, ↓DL.o_p10_100, ↓DL.o_addS, ↓DL.o_addT, ↓DL.o_catL, ↓DL.o_addL, DL.o_lt, DL.o_le, DL.o_gt, DL.o_ge, DL.o_eqI, DL.o_neI, DL.o_eqS, DL.o_neS, DL.o_is, DL.o_isn, DL.n_non, DL.n_bl, DL.n_int, DL.n_str, DL.n_lst, DL.n_tup, DL.n_ref, DL.n_obj, DL.i_non_int, DL.i_non_bool, DL.i_non_str, DL.i_non_list, DL.i_non_tuple, DL.i_bl_int, DL.i_bl_bool, DL.i_bl_str, DL.i_bl_list, DL.i_bl_tuple, DL.i_int_int, DL.i_int_bool, DL.i_int_str, DL.i_int_list, DL.i_int_tuple, DL.i_str_int, DL.i_str_bool, DL.i_str_str, DL.i_str_list, DL.i_str_tuple, DL.i_lst_int, DL.i_lst_bool, DL.i_lst_str, DL.i_lst_list, DL.i_lst_tuple, DL.i_tup_int, DL.i_tup_bool, DL.i_tup_str, DL.i_tup_list, DL.i_tup_tuple, DL.t_non, DL.t_bl, DL.t_int, DL.t_lst, DL.t_tup, ↓DL.x_lst, ↓DL.x_tup, ↓DL.x_encP0, ↓DL.x_encP1, DL.ixn1_0, DL.ixn1_m1, DL.ixn2_0, DL.ixn2_1, DL.ixn2_m1, DL.ixn3_0, DL.ixn3_1, DL.ixn3_2, DL.ixn3_m1, DL.ixn4_0, DL.ixn4_1, DL.ixn4_2, DL.ixn4_3, DL.ixn4_m1, DL.ixn5_0, DL.ixn5_1, DL.ixn5_2, DL.ixn5_3, DL.ixn5_4, DL.ixn5_m1, DL.ixn6_0, DL.ixn6_1, DL.ixn6_2, DL.ixn6_3, DL.ixn6_4, DL.ixn6_5, DL.ixn6_m1, DL.ixn7_0, DL.ixn7_1, DL.ixn7_2, DL.ixn7_3, DL.ixn7_4, DL.ixn7_5, DL.ixn7_6, DL.ixn7_m1, DL.ixn8_0, DL.ixn8_1, DL.ixn8_2, DL.ixn8_3, DL.ixn8_4, DL.ixn8_5, DL.ixn8_6, DL.ixn8_7, DL.ixn8_m1, ↓DL.x1_0, ↓DL.x1_m1, ↓DL.x2_0, ↓DL.x2_1, ↓DL.x2_m1, ↓DL.x3_0, ↓DL.x3_1, ↓DL.x3_2, ↓DL.x3_m1, ↓DL.x4_0, ↓DL.x4_1, ↓DL.x4_2, ↓DL.x4_3, ↓DL.x4_m1, ↓DL.x5_0, ↓DL.x5_1, ↓DL.x5_2, ↓DL.x5_3, ↓DL.x5_4, ↓DL.x5_m1, ↓DL.x6_0, ↓DL.x6_1, ↓DL.x6_2, ↓DL.x6_3, ↓DL.x6_4, ↓DL.x6_5, ↓DL.x6_m1, ↓DL.x7_0, ↓DL.x7_1, ↓DL.x7_2, ↓DL.x7_3, ↓DL.x7_4, ↓DL.x7_5, ↓DL.x7_6, ↓DL.x7_m1, ↓DL.x8_0, ↓DL.x8_1, ↓DL.x8_2, ↓DL.x8_3, ↓DL.x8_4, ↓DL.x8_5, ↓DL.x8_6, ↓DL.x8_7, ↓DL.x8_m1, DL.c_abs, DL.c_max2, DL.c_min2, DL.c_int, DL.c_intb, DL.c_lenS, DL.c_lenT, DL.c_lenL, DL.c_listT, DL.c_listL, DL.c_tupT, DL.c_tupL, DL.c_sum, DL.c_sum0, DL.c_all, DL.c_any, DL.c_minP, DL.c_maxP, DL.c_sortP, DL.c_zip, DL.c_enum, DL.c_range1, DL.c_range2, DL.g_lst, DL.g_tup, DL.g_str, DL.p_int, DL.sq_lst, DL.sl_lst, DL.sl_tup, DL.sl_str, DL.slL_lst, DL.om_some, List.set_cons_zero, List.set_cons_succ, DL.m_tyL, DL.m_tyS, DL.m_ty, DL.m_app, DL.m_sto, DL.m_fzL, DL.m_fzI, DL.m_fzT, DL.m_fz, DL.x_ref, DL.c_lenR, DL.c_listR, DL.c_tupR, DL.sl_ref, DL.atL_new, DL.atL_new1, DL.atL_new2, DL.atL_old, DL.set_new, DL.set_new1, DL.set_new2, DL.set_old, DL.take_app, DL.app_app, DL.cons_app, DL.nil_app, DL.len_app1, DL.len_app2, DL.len_app3, DL.len_set, DL.seq_new, DL.seq_new1, DL.seq_new2, DL.seq_old, DL.ex_some, DL.fl_non, DL.fl_int, DL.fl_bl, DL.fl_str, DL.fl_tup, DL.fl_lst, DL.fl_obj, DL.fl_nil, DL.fl_cons, DL.fl_app, DL.fl_encP, Bool.and_self, Bool.and_true, Bool.true_and, List.set_set, ↓DL.w_yes, ↓DL.w_fld, ↓DL.w_mt, ↓DL.w_mtL, ↓DL.w_mt0, ↓DL.w_mt0L, ↓DL.w_ic, DL.isO_obj, ↓DL.w_make, ↓DL.w_b2M, ↓DL.w_b2MT, DL.c_intU, DL.c_intbU, ↓DL.w_mthL, ↓DL.w_uM, ↓DL.w_inv, ↓DL.w_bin_obj, ↓DL.w_bin_int, ↓DL.w_fldS, DL.m_fld, DL.atI_new, DL.putD, ↓DL.w_repL, ↓DL.w_isiC, ↓DL.w_par3, ↓DL.wPar3_3, DL.m_count, DL.wretL_new, DL.wret_new, ↓DL.c_setSort, DL.o_addI, DL.o_inS, DL.o_ninS, ↓DL.c_str, ↓DL.c_intSw, ↓DL.m_ext, DL.slt_l, DL.slt_t, DL.slt_r, ↓DL.c_dm, ↓DL.c_split, ↓DL.c_join, ↓DL.c_rep, ↓DL.x_str, ↓DL.o_catRL, ↓DL.o_addRL, ↓DL.wret_tup, ↓DL.wret_lst, List.take_length, List.length_cons, List.length_nil, List.length_map, Int.cast_ofNat_Int, Bool.not_true, Bool.not_false, Int.reduceAdd, Int.reduceSub, Int.reduceMul, Int.reduceNeg, Int.reduceEq, Int.reduceLT, Int.reduceLE, Nat.reduceAdd, Nat.reduceSub, eq_self, not_true_eq_false, not_false_eq_true, false_implies, implies_true, true_implies, ff_Profile_own_cold, ff_Profile_own_pieces, fm_Profile_pieces, fm_Profile_accesses, fm_Profile_cold, isf_Profile_Profile, isf_Profile_0s, isf_Profile_0i, isf_Profile_0l, isf_Profile_0t, isf_Profile_0n, isf_Profile_0b, isf_Profile_0d])
def pondL (a b c : Int) : List D := [.int a, .int b, .int c]
def Pond (S : Cells) (n k : Nat) : Prop := ∃ a b c : Int, S[n]? = some ⟨true, .lst (pondL a b c)⟩ ∧ 0 ≤ b ∧ b < 10 ^ 50 ∧ 0 ≤ c ∧ c ≤ k
theorem Pond.lt {S : Cells} {n k : Nat} (h : Pond S n k) : n < S.length := by
  obtain ⟨a, b, c, h, _⟩ := h
  exact (List.getElem?_eq_some_iff.mp h).1
theorem Pond.mono {S : Cells} {n k j : Nat} (h : Pond S n k) (hk : k ≤ j) : Pond S n j := by
  obtain ⟨a, b, c, h, h1, h2, h3, h4⟩ := h
  exact ⟨a, b, c, h, h1, h2, h3, by omega⟩
/-- but for the pond all is as before -/
structure Fr (S S' : Cells) (n : Nat) : Prop where
  len : S'.length = S.length
  oth : ∀ j, j ≠ n → S'[j]? = S[j]?
theorem Fr.refl (S : Cells) (n : Nat) : Fr S S n := ⟨rfl, fun _ _ => rfl⟩
theorem Fr.trans {S S1 S2 : Cells} {n : Nat} (a : Fr S S1 n) (b : Fr S1 S2 n) : Fr S S2 n := ⟨b.len.trans a.len, fun j h => (b.oth j h).trans (a.oth j h)⟩
theorem Fr.set {S : Cells} {n : Nat} {c : Cell} : Fr S (S.set n c) n := ⟨List.length_set, fun j h => List.getElem?_set_ne (Ne.symm h)⟩
section
variable {S R : Cells} {E : Xc → Cells → Prop} {Q : D → Cells → Prop}
theorem lt_pow {i : Int} {b : Nat} {m : Int} (h0 : 0 ≤ i) (h : i < m) (hm : m ≤ 2 ^ b) : i.natAbs < 2 ^ b := by
  have e : ((2 ^ b : Nat) : Int) = (2 : Int) ^ b := by simp
  omega
theorem pow_ok {i : Int} (h : 0 ≤ i) (h2 : i < 10 ^ 60) : okPow i 3 := by
  refine ⟨by decide, ?_⟩
  unfold Builtin.Int.intBits
  have := PySem.Flt.log2_lt_of (by decide) (lt_pow (b := 200) h h2 (by decide))
  split <;> omega
theorem div_ok {m : Int} (hm : 0 < m) (hm2 : m < 10 ^ 60) : okDiv m := ⟨hm, by have := PySem.Flt.log2_lt_of (by decide) (lt_pow (b := 200) (by omega) hm2 (by decide)); omega⟩
theorem sm_of {i : Int} (h : 0 ≤ i) (h2 : i < 10 ^ 60) : Sm i := ⟨by omega, h2⟩
theorem dip_wp {n k : Nat} {m : Int} (h : Pond S n k) (hk : k ≤ 10 ^ 12) (hm : 0 < m) (hm2 : m < 10 ^ 60) (q : ∀ v S', 0 ≤ v → v < m → Pond S' n (k + 1) → Fr S S' n → Q (.int v) (S' ++ R)) : wp (g__law_dip [.ref n, .int m] (S ++ R)) Q E := by
  have hn := h.lt
  obtain ⟨a, b, c, h, h1, h2, h3, h4⟩ := h
  have hs : ∀ {c : Cell}, (S.set n c)[n]? = some c := fun {c} => by rw [List.getElem?_set_self hn]
  have tk : ∀ {c : Cell}, ((S.set n c) ++ R).take (S ++ R).length = (S.set n c) ++ R := fun {c} => List.take_of_length_le (by simp)
  unfold pondL at h
  push_cast [g__law_dip, B__law_dip, seq_at h, seq_at hs, atL_of h, atL_of hs, hn, tk, hm, div_ok hm hm2, div_ok (m := 655373) (by decide) (by decide)]
  refine ⟨fun ha => ?_, fun ha => ?_⟩
  · exact q _ _ (Int.emod_nonneg _ (by omega)) (Int.emod_lt_of_pos _ hm) ⟨a / m, b, c, hs, h1, h2, h3, by omega⟩ Fr.set
  have hc : c + 1 ≤ 10 ^ 12 + 1 := by omega
  have b1 := Int.emod_nonneg ((b + 86028157 * (c + 1)) ^ Int.toNat 3) (b := 1000000000000000000000000000000000000000063) (by decide)
  have b2 := Int.emod_lt_of_pos ((b + 86028157 * (c + 1)) ^ Int.toNat 3) (b := 1000000000000000000000000000000000000000063) (by decide)
  refine ⟨sm_mul (sm_of (by decide) (by decide)) (sm_of (by omega) (by omega)), pow_ok (by omega) (by omega), sm_mul (sm_of (by decide) (by decide)) (sm_of (by omega) (by omega)), pow_ok (by omega) (by omega), ?_⟩
  exact q _ _ (Int.emod_nonneg _ (by omega)) (Int.emod_lt_of_pos _ hm) ⟨a, b, c + 1, hs, h1, h2, by omega, by omega⟩ Fr.set
theorem dip_wp0 {n k : Nat} {m : Int} (h : Pond S n k) (hk : k ≤ 10 ^ 12) (hm : 0 < m) (hm2 : m < 10 ^ 60) (q : ∀ v S', 0 ≤ v → v < m → Pond S' n (k + 1) → Fr S S' n → Q (.int v) S') : wp (g__law_dip [.ref n, .int m] S) Q E := by
  have := dip_wp (R := []) (E := E) (Q := Q) h hk hm hm2 fun v S' a b c d => by rw [List.append_nil]; exact q v S' a b c d
  rwa [List.append_nil] at this
end

end K12
end
section
set_option maxHeartbeats 4000000
set_option exponentiation.threshold 3000
namespace K12
open PySem PySem.Spec L2 DL
open PyProof.Rows hiding St
open Lean in
local macro_rules | `(tactic| push_cast [$ts,*]) => `(tactic| simp only [↓DL.r0, ↓DL.r1, ↓DL.r2, ↓DL.r3, ↓DL.r4, ↓DL.r5, ↓DL.r6, ↓DL.r7, ↓DL.r8, ↓DL.r9, ↓DL.r10, ↓DL.r11, ↓DL.r12, ↓DL.r13, ↓DL.r14, ↓DL.r15, ↓DL.r16, ↓DL.r17, ↓DL.r18, ↓DL.r19, ↓DL.r20, ↓DL.r21, ↓DL.r22, ↓DL.r23, ↓DL.r24, ↓DL.r25, ↓DL.r26, ↓DL.r27, ↓DL.r28, ↓DL.r29, DL.s0, DL.s1, DL.s2, DL.s3, DL.s4, DL.s5, DL.s6, DL.s7, DL.s8, DL.s9, DL.s10, DL.s11, DL.s12, DL.s13, DL.s14, DL.s15, DL.s16, DL.s17, DL.s18, DL.s19, DL.s20, DL.s21, DL.s22, DL.s23, DL.s24, DL.s25, DL.s26, DL.s27, DL.s28, DL.s29, DL.startD_cons, DL.startD_nil, DL.startD_zero, ↓DL.w_ok, ↓DL.w_some, ↓DL.w_somec, ↓DL.w_bind, ↓DL.w_opt, ↓DL.w_chg, ↓DL.w_kon, ↓DL.w_calm, ↓DL.w_b2, ↓DL.w_b2L, ↓DL.w_b1, ↓DL.wB_bl, ↓DL.w_asB, ↓DL.w_b2T, ↓DL.w_chE, ↓DL.w_chT, ↓DL.w_not, ↓DL.w_val, ↓DL.w_notE, ↓DL.w_ifE, ↓DL.w_ifL, ↓DL.w_andM, ↓DL.w_orM, ↓DL.w_andE, ↓DL.w_orE, ↓DL.w_nil, ↓DL.w_cons, ↓DL.w_tup, ↓DL.w_lst, ↓DL.w_frz, ↓DL.w_new, ↓DL.w_cel, ↓DL.w_cb, ↓DL.w_cbL, ↓DL.w_call, ↓DL.w_callL, ↓DL.w_ar0, ↓DL.w_ar1, ↓DL.w_ar2, ↓DL.w_ar3, ↓DL.w_ar4, ↓DL.w_ar5, ↓DL.w_ar6, ↓DL.w_noO, ↓DL.w_smO, ↓DL.w_sl, ↓DL.w_slL, ↓DL.w_rev, ↓DL.w_step, ↓DL.w_isi, ↓DL.w_sets, ↓DL.w_lrg, ↓DL.w_mth, ↓DL.w_mth0, ↓DL.w_itS, ↓DL.w_itR1, ↓DL.w_itR2, ↓DL.w_itR3, ↓DL.w_itZ, ↓DL.w_itN, ↓DL.w_lc, ↓DL.w_nx, ↓DL.w_rt, ↓DL.w_seq, ↓DL.w_set, ↓DL.wPar_2, ↓DL.w_par, ↓DL.w_aug, ↓DL.w_sto, ↓DL.w_exp, ↓DL.w_ret, ↓DL.w_retN, ↓DL.w_nxS, ↓DL.w_ifS, ↓DL.w_for, ↓DL.w_asg, ↓DL.w_stk, ↓DL.w_body, ↓DL.w_bodyL, ↓DL.wret_non, ↓DL.wret_bl, ↓DL.wret_int, ↓DL.wret_str, ↓DL.wif_t, ↓DL.wif_f, ↓DL.wif_d, ↓DL.wif_n, ↓DL.wif_a, ↓DL.wif_o, DL.few0, DL.few1, DL.few2, DL.few3, DL.few4, DL.few5, DL.few6, DL.few7, DL.few8, DL.few9, DL.few10, true_and, and_true, ↓DL.a_nm, ↓DL.a_tp1, ↓DL.a_tp2, ↓DL.a_tp3, ↓DL.a_tp4, ↓DL.a_tp5, ↓DL.a_tpn, ↓DL.a_tpm, ↓DL.a_encP, DL.wipe_nil, DL.wipe_cons, DL.o_add, DL.o_sub, DL.o_neg, ↓DL.o_mul, ↓DL.o_div, ↓DL.o_mod, DL.o_pow, ↓DL.o_p10_3, ↓DL.o_p10_4, ↓DL.o_p10_6, ↓DL.o_p10_8, ↓DL.o_p10_9, ↓DL.o_p10_12, ↓DL.o_p10_15, ↓DL.o_p10_18, ↓DL.o_p10_20, ↓DL.o_p10_25, ↓DL.o_p10_26, ↓DL.o_p10_27, ↓DL.o_p10_28, ↓DL.o_p10_29, ↓DL.o_p10_30, ↓DL.o_p10_31, ↓DL.o_p10_36, ↓DL.o_p10_38, ↓DL.o_p10_40, ↓DL.o_p10_42, ↓DL.o_p10_44, ↓DL.o_p10_46, ↓DL.o_p10_48, ↓DL.o_p10_50, ↓DL.o_p10_60, ↓DL.o_p10_64, ↓DL.o_p10_70, ↓DL.o_p10_90, ↓DL.o_p10_99, ↓DL.o_p10_100, ↓DL.o_addS, ↓DL.o_addT, ↓DL.o_catL, ↓DL.o_addL, DL.o_lt, DL.o_le, DL.o_gt, DL.o_ge, DL.o_eqI, DL.o_neI, DL.o_eqS, DL.o_neS, DL.o_is, DL.o_isn, DL.n_non, DL.n_bl, DL.n_int, DL.n_str, DL.n_lst, DL.n_tup, DL.n_ref, DL.n_obj, DL.i_non_int, DL.i_non_bool, DL.i_non_str, DL.i_non_list, DL.i_non_tuple, DL.i_bl_int, DL.i_bl_bool, DL.i_bl_str, DL.i_bl_list, DL.i_bl_tuple, DL.i_int_int, DL.i_int_bool, DL.i_int_str, DL.i_int_list, DL.i_int_tuple, DL.i_str_int, DL.i_str_bool, DL.i_str_str, DL.i_str_list, DL.i_str_tuple, DL.i_lst_int, DL.i_lst_bool, DL.i_lst_str, DL.i_lst_list, DL.i_lst_tuple, DL.i_tup_int, DL.i_tup_bool, DL.i_tup_str, DL.i_tup_list, DL.i_tup_tuple, DL.t_non, DL.t_bl, DL.t_int, DL.t_lst, DL.t_tup, ↓DL.x_lst, ↓DL.x_tup, ↓DL.x_encP0, ↓DL.x_encP1, DL.ixn1_0, DL.ixn1_m1, DL.ixn2_0, DL.ixn2_1, DL.ixn2_m1, DL.ixn3_0, DL.ixn3_1, DL.ixn3_2, DL.ixn3_m1, DL.ixn4_0, DL.ixn4_1, DL.ixn4_2, DL.ixn4_3, DL.ixn4_m1, DL.ixn5_0, DL.ixn5_1, DL.ixn5_2, DL.ixn5_3, DL.ixn5_4, DL.ixn5_m1, DL.ixn6_0, DL.ixn6_1, DL.ixn6_2, DL.ixn6_3, DL.ixn6_4, DL.ixn6_5, DL.ixn6_m1, DL.ixn7_0, DL.ixn7_1, DL.ixn7_2, DL.ixn7_3, DL.ixn7_4, DL.ixn7_5, DL.ixn7_6, DL.ixn7_m1, DL.ixn8_0, DL.ixn8_1, DL.ixn8_2, DL.ixn8_3, DL.ixn8_4, DL.ixn8_5, DL.ixn8_6, DL.ixn8_7, DL.ixn8_m1, ↓DL.x1_0, ↓DL.x1_m1, ↓DL.x2_0, ↓DL.x2_1, ↓DL.x2_m1, ↓DL.x3_0, ↓DL.x3_1, ↓DL.x3_2, ↓DL.x3_m1, ↓DL.x4_0, ↓DL.x4_1, ↓DL.x4_2, ↓DL.x4_3, ↓DL.x4_m1, ↓DL.x5_0, ↓DL.x5_1, ↓DL.x5_2, ↓DL.x5_3, ↓DL.x5_4, ↓DL.x5_m1, ↓DL.x6_0, ↓DL.x6_1, ↓DL.x6_2, ↓DL.x6_3, ↓DL.x6_4, ↓DL.x6_5, ↓DL.x6_m1, ↓DL.x7_0, ↓DL.x7_1, ↓DL.x7_2, ↓DL.x7_3, ↓DL.x7_4, ↓DL.x7_5, ↓DL.x7_6, ↓DL.x7_m1, ↓DL.x8_0, ↓DL.x8_1, ↓DL.x8_2, ↓DL.x8_3, ↓DL.x8_4, ↓DL.x8_5, ↓DL.x8_6, ↓DL.x8_7, ↓DL.x8_m1, DL.c_abs, DL.c_max2, DL.c_min2, DL.c_int, DL.c_intb, DL.c_lenS, DL.c_lenT, DL.c_lenL, DL.c_listT, DL.c_listL, DL.c_tupT, DL.c_tupL, DL.c_sum, DL.c_sum0, DL.c_all, DL.c_any, DL.c_minP, DL.c_maxP, DL.c_sortP, DL.c_zip, DL.c_enum, DL.c_range1, DL.c_range2, DL.g_lst, DL.g_tup, DL.g_str, DL.p_int, DL.sq_lst, DL.sl_lst, DL.sl_tup, DL.sl_str, DL.slL_lst, DL.om_some, List.set_cons_zero, List.set_cons_succ, DL.m_tyL, DL.m_tyS, DL.m_ty, DL.m_app, DL.m_sto, DL.m_fzL, DL.m_fzI, DL.m_fzT, DL.m_fz, DL.x_ref, DL.c_lenR, DL.c_listR, DL.c_tupR, DL.sl_ref, DL.atL_new, DL.atL_new1, DL.atL_new2, DL.atL_old, DL.set_new, DL.set_new1, DL.set_new2, DL.set_old, DL.take_app, DL.app_app, DL.cons_app, DL.nil_app, DL.len_app1, DL.len_app2, DL.len_app3, DL.len_set, DL.seq_new, DL.seq_new1, DL.seq_new2, DL.seq_old, DL.ex_some, DL.fl_non, DL.fl_int, DL.fl_bl, DL.fl_str, DL.fl_tup, DL.fl_lst, DL.fl_obj, DL.fl_nil, DL.fl_cons, DL.fl_app, DL.fl_encP, Bool.and_self, Bool.and_true, Bool.true_and, List.set_set, ↓DL.w_yes, ↓DL.w_fld, ↓DL.w_mt, ↓DL.w_mtL, ↓DL.w_mt0, ↓DL.w_mt0L, ↓DL.w_ic, DL.isO_obj, ↓DL.w_make, ↓DL.w_b2M, ↓DL.w_b2MT, DL.c_intU, DL.c_intbU, ↓DL.w_mthL, ↓DL.w_uM, ↓DL.w_inv, ↓DL.w_bin_obj, ↓DL.w_bin_int, ↓DL.w_fldS, DL.m_fld, DL.atI_new, DL.putD, ↓DL.w_repL, ↓DL.w_isiC, ↓DL.w_par3, ↓DL.wPar3_3, DL.m_count, DL.wretL_new, DL.wret_new, ↓DL.c_setSort, DL.o_addI, DL.o_inS, DL.o_ninS, ↓DL.c_str, ↓DL.c_intSw, ↓DL.m_ext, DL.slt_l, DL.slt_t, DL.slt_r, ↓DL.c_dm, ↓DL.c_split, ↓DL.c_join, ↓DL.c_rep, ↓DL.x_str, ↓DL.o_catRL, ↓DL.o_addRL, ↓DL.wret_tup, ↓DL.wret_lst, List.take_length, List.length_cons, List.length_nil, List.length_map, Int.cast_ofNat_Int, Bool.not_true, Bool.not_false, Int.reduceAdd, Int.reduceSub, Int.reduceMul, Int.reduceNeg, Int.reduceEq, Int.reduceLT, Int.reduceLE, Nat.reduceAdd, Nat.reduceSub, eq_self, not_true_eq_false, not_false_eq_true, false_implies, implies_true, true_implies, ff_Profile_own_cold, ff_Profile_own_pieces, fm_Profile_pieces, fm_Profile_accesses, fm_Profile_cold, isf_Profile_Profile, isf_Profile_0s, isf_Profile_0i, isf_Profile_0l, isf_Profile_0t, isf_Profile_0n, isf_Profile_0b, isf_Profile_0d, $ts,*])
open Lean in
local macro_rules | `(tactic| push_cast) => `(tactic| simp only [↓DL.r0, ↓DL.r1, ↓DL.r2, ↓DL.r3, ↓DL.r4, ↓DL.r5, ↓DL.r6, ↓DL.r7, ↓DL.r8, ↓DL.r9, ↓DL.r10, ↓DL.r11, ↓DL.r12, ↓DL.r13, ↓DL.r14, ↓DL.r15, ↓DL.r16, ↓DL.r17, ↓DL.r18, ↓DL.r19, ↓DL.r20, ↓DL.r21, ↓DL.r22, ↓DL.r23, ↓DL.r24, ↓DL.r25, ↓DL.r26, ↓DL.r27, ↓DL.r28, ↓DL.r29, DL.s0, DL.s1, DL.s2, DL.s3, DL.s4, DL.s5, DL.s6, DL.s7, DL.s8, DL.s9, DL.s10, DL.s11, DL.s12, DL.s13, DL.s14, DL.s15, DL.s16, DL.s17, DL.s18, DL.s19, DL.s20, DL.s21, DL.s22, DL.s23, DL.s24, DL.s25, DL.s26, DL.s27, DL.s28, DL.s29, DL.startD_cons, DL.startD_nil, DL.startD_zero, ↓DL.w_ok, ↓DL.w_some, ↓DL.w_somec, ↓DL.w_bind, ↓DL.w_opt, ↓DL.w_chg, ↓DL.w_kon, ↓DL.w_calm, ↓DL.w_b2, ↓DL.w_b2L, ↓DL.w_b1, ↓DL.wB_bl, ↓DL.w_asB, ↓DL.w_b2T, ↓DL.w_chE, ↓DL.w_chT, ↓DL.w_not, ↓DL.w_val, ↓DL.w_notE, ↓DL.w_ifE, ↓DL.w_ifL, ↓DL.w_andM, ↓DL.w_orM, ↓DL.w_andE, ↓DL.w_orE, ↓DL.w_nil, ↓DL.w_cons, ↓DL.w_tup, ↓DL.w_lst, ↓DL.w_frz, ↓DL.w_new, ↓DL.w_cel, ↓DL.w_cb, ↓DL.w_cbL, ↓DL.w_call, ↓DL.w_callL, ↓DL.w_ar0, ↓DL.w_ar1, ↓DL.w_ar2, ↓DL.w_ar3, ↓DL.w_ar4, ↓DL.w_ar5, ↓DL.w_ar6, ↓DL.w_noO, ↓DL.w_smO, ↓DL.w_sl, ↓DL.w_slL, ↓DL.w_rev, ↓DL.w_step, ↓DL.w_isi, ↓DL.w_sets, ↓DL.w_lrg, ↓DL.w_mth, ↓DL.w_mth0, ↓DL.w_itS, ↓DL.w_itR1, ↓DL.w_itR2, ↓DL.w_itR3, ↓DL.w_itZ, ↓DL.w_itN, ↓DL.w_lc, ↓DL.w_nx, ↓DL.w_rt, ↓DL.w_seq, ↓DL.w_set, ↓DL.wPar_2, ↓DL.w_par, ↓DL.w_aug, ↓DL.w_sto, ↓DL.w_exp, ↓DL.w_ret, ↓DL.w_retN, ↓DL.w_nxS, ↓DL.w_ifS, ↓DL.w_for, ↓DL.w_asg, ↓DL.w_stk, ↓DL.w_body, ↓DL.w_bodyL, ↓DL.wret_non, ↓DL.wret_bl, ↓DL.wret_int, ↓DL.wret_str, ↓DL.wif_t, ↓DL.wif_f, ↓DL.wif_d, ↓DL.wif_n, ↓DL.wif_a, ↓DL.wif_o, DL.few0, DL.few1, DL.few2, DL.few3, DL.few4, DL.few5, DL.few6, DL.few7, DL.few8, DL.few9, DL.few10, true_and, and_true, ↓DL.a_nm, ↓DL.a_tp1, ↓DL.a_tp2, ↓DL.a_tp3, ↓DL.a_tp4, ↓DL.a_tp5, ↓DL.a_tpn, ↓DL.a_tpm, ↓DL.a_encP, DL.wipe_nil, DL.wipe_cons, DL.o_add, DL.o_sub, DL.o_neg, ↓DL.o_mul, ↓DL.o_div, ↓DL.o_mod, DL.o_pow, ↓DL.o_p10_3, ↓DL.o_p10_4, ↓DL.o_p10_6, ↓DL.o_p10_8, ↓DL.o_p10_9, ↓DL.o_p10_12, ↓DL.o_p10_15, ↓DL.o_p10_18, ↓DL.o_p10_20, ↓DL.o_p10_25, ↓DL.o_p10_26, ↓DL.o_p10_27, ↓DL.o_p10_28, ↓DL.o_p10_29, ↓DL.o_p10_30, ↓DL.o_p10_31, ↓DL.o_p10_36, ↓DL.o_p10_38, ↓DL.o_p10_40, ↓DL.o_p10_42, ↓DL.o_p10_44, ↓DL.o_p10_46, ↓DL.o_p10_48, ↓DL.o_p10_50, ↓DL.o_p10_60, ↓DL.o_p10_64, ↓DL.o_p10_70, ↓DL.o_p10_90, ↓DL.o_p10_99, ↓DL.o_p10_100, ↓DL.o_addS, ↓DL.o_addT, ↓DL.o_catL, ↓DL.o_addL, DL.o_lt, DL.o_le, DL.o_gt, DL.o_ge, DL.o_eqI, DL.o_neI, DL.o_eqS, DL.o_neS, DL.o_is, DL.o_isn, DL.n_non, DL.n_bl, DL.n_int, DL.n_str, DL.n_lst, DL.n_tup, DL.n_ref, DL.n_obj, DL.i_non_int, DL.i_non_bool, DL.i_non_str, DL.i_non_list, DL.i_non_tuple, DL.i_bl_int, DL.i_bl_bool, DL.i_bl_str, DL.i_bl_list, DL.i_bl_tuple, DL.i_int_int, DL.i_int_bool, DL.i_int_str, DL.i_int_list, DL.i_int_tuple, DL.i_str_int, DL.i_str_bool, DL.i_str_str, DL.i_str_list, DL.i_str_tuple, DL.i_lst_int, DL.i_lst_bool, DL.i_lst_str, DL.i_lst_list, DL.i_lst_tuple, DL.i_tup_int, DL.i_tup_bool, DL.i_tup_str, DL.i_tup_list, DL.i_tup_tuple, DL.t_non, DL.t_bl, DL.t_int, DL.t_lst, DL.t_tup, ↓DL.x_lst, ↓DL.x_tup, ↓DL.x_encP0, ↓DL.x_encP1, DL.ixn1_0, DL.ixn1_m1, DL.ixn2_0, DL.ixn2_1, DL.ixn2_m1, DL.ixn3_0, DL.ixn3_1, DL.ixn3_2, DL.ixn3_m1, DL.ixn4_0, DL.ixn4_1, DL.ixn4_2, DL.ixn4_3, DL.ixn4_m1, DL.ixn5_0, DL.ixn5_1, DL.ixn5_2, DL.ixn5_3, DL.ixn5_4, DL.ixn5_m1, DL.ixn6_0, DL.ixn6_1, DL.ixn6_2, DL.ixn6_3, DL.ixn6_4, DL.ixn6_5, DL.ixn6_m1, DL.ixn7_0, DL.ixn7_1, DL.ixn7_2, DL.ixn7_3, DL.ixn7_4, DL.ixn7_5, DL.ixn7_6, DL.ixn7_m1, DL.ixn8_0, DL.ixn8_1, DL.ixn8_2, DL.ixn8_3, DL.ixn8_4, DL.ixn8_5, DL.ixn8_6, DL.ixn8_7, DL.ixn8_m1, ↓DL.x1_0, ↓DL.x1_m1, ↓DL.x2_0, ↓DL.x2_1, ↓DL.x2_m1, ↓DL.x3_0, ↓DL.x3_1, ↓DL.x3_2, ↓DL.x3_m1, ↓DL.x4_0, ↓DL.x4_1, ↓DL.x4_2, ↓DL.x4_3, ↓DL.x4_m1, ↓DL.x5_0, ↓DL.x5_1, ↓DL.x5_2, ↓DL.x5_3, ↓DL.x5_4, ↓DL.x5_m1, ↓DL.x6_0, ↓DL.x6_1, ↓DL.x6_2, ↓DL.x6_3, ↓DL.x6_4, ↓DL.x6_5, ↓DL.x6_m1, ↓DL.x7_0, ↓DL.x7_1, ↓DL.x7_2, ↓DL.x7_3, ↓DL.x7_4, ↓DL.x7_5, ↓DL.x7_6, ↓DL.x7_m1, ↓DL.x8_0, ↓DL.x8_1, ↓DL.x8_2, ↓DL.x8_3, ↓DL.x8_4, ↓DL.x8_5, ↓DL.x8_6, ↓DL.x8_7, ↓DL.x8_m1, DL.c_abs, DL.c_max2, DL.c_min2, DL.c_int, DL.c_intb, DL.c_lenS, DL.c_lenT, DL.c_lenL, DL.c_listT, DL.c_listL, DL.c_tupT, DL.c_tupL, DL.c_sum, DL.c_sum0, DL.c_all, DL.c_any, DL.c_minP, DL.c_maxP, DL.c_sortP, DL.c_zip, DL.c_enum, DL.c_range1, DL.c_range2, DL.g_lst, DL.g_tup, DL.g_str, DL.p_int, DL.sq_lst, DL.sl_lst, DL.sl_tup, DL.sl_str, DL.slL_lst, DL.om_some, List.set_cons_zero, List.set_cons_succ, DL.m_tyL, DL.m_tyS, DL.m_ty, DL.m_app, DL.m_sto, DL.m_fzL, DL.m_fzI, DL.m_fzT, DL.m_fz, DL.x_ref, DL.c_lenR, DL.c_listR, DL.c_tupR, DL.sl_ref, DL.atL_new, DL.atL_new1, DL.atL_new2, DL.atL_old, DL.set_new, DL.set_new1, DL.set_new2, DL.set_old, DL.take_app, DL.app_app, DL.cons_app, DL.nil_app, DL.len_app1, DL.len_app2, DL.len_app3, DL.len_set, DL.seq_new, DL.seq_new1, DL.seq_new2, DL.seq_old, DL.ex_some, DL.fl_non, DL.fl_int, DL.fl_bl, DL.fl_str, DL.fl_tup, DL.fl_lst, DL.fl_obj, DL.fl_nil, DL.fl_cons, DL.fl_app, DL.fl_encP, Bool.and_self, Bool.and_true, Bool.true_and, List.set_set, ↓DL.w_yes, ↓DL.w_fld, ↓DL.w_mt, ↓DL.w_mtL, ↓DL.w_mt0, ↓DL.w_mt0L, ↓DL.w_ic, DL.isO_obj, ↓DL.w_make, ↓DL.w_b2M, ↓DL.w_b2MT, DL.c_intU, DL.c_intbU, ↓DL.w_mthL, ↓DL.w_uM, ↓DL.w_inv, ↓DL.w_bin_obj, ↓DL.w_bin_int, ↓DL.w_fldS, DL.m_fld, DL.atI_new, DL.putD, ↓DL.w_repL, ↓DL.w_isiC, ↓DL.w_par3, ↓DL.wPar3_3, DL.m_count, DL.wretL_new, DL.wret_new, ↓DL.c_setSort, DL.o_addI, DL.o_inS, DL.o_ninS, ↓DL.c_str, ↓DL.c_intSw, ↓DL.m_ext, DL.slt_l, DL.slt_t, DL.slt_r, ↓DL.c_dm, ↓DL.c_split, ↓DL.c_join, ↓DL.c_rep, ↓DL.x_str, ↓DL.o_catRL, ↓DL.o_addRL, ↓DL.wret_tup, ↓DL.wret_lst, List.take_length, List.length_cons, List.length_nil, List.length_map, Int.cast_ofNat_Int, Bool.not_true, Bool.not_false, Int.reduceAdd, Int.reduceSub, Int.reduceMul, Int.reduceNeg, Int.reduceEq, Int.reduceLT, Int.reduceLE, Nat.reduceAdd, Nat.reduceSub, eq_self, not_true_eq_false, not_false_eq_true, false_implies, implies_true, true_implies, ff_Profile_own_cold, ff_Profile_own_pieces, fm_Profile_pieces, fm_Profile_accesses, fm_Profile_cold, isf_Profile_Profile, isf_Profile_0s, isf_Profile_0i, isf_Profile_0l, isf_Profile_0t, isf_Profile_0n, isf_Profile_0b, isf_Profile_0d])
section
variable {S R : Cells} {E : Xc → Cells → Prop} {Q : D → Cells → Prop} {QL : List D → Cells → Prop}
theorem at_int3 {a b c k : Int} (h0 : 0 ≤ k) (h1 : k < 3) (q : ∀ x, (x = a ∨ x = b ∨ x = c) → Q (.int x) S) : wAt [.int a, .int b, .int c] k S Q :=
  at_3 h0 h1 (fun _ => q _ (.inl rfl)) (fun _ => q _ (.inr (.inl rfl))) (fun _ => q _ (.inr (.inr rfl)))
theorem at_int2 {a b k : Int} (h0 : 0 ≤ k) (h1 : k < 2) (q : ∀ x, (x = a ∨ x = b) → Q (.int x) S) : wAt [.int a, .int b] k S Q :=
  at_2 h0 h1 (fun _ => q _ (.inl rfl)) (fun _ => q _ (.inr rfl))
theorem asc_snoc : ∀ {lo : Int} {l : List MP.T} {p : MP.T}, MP.Asc lo l → (∀ q ∈ l, q.2.1 < p.1) → lo ≤ p.1 → p.1 ≤ p.2.1 → 0 < p.2.2 → MP.Asc lo (l ++ [p])
  | _, [], _, _, _, h1, h2, h3 => ⟨h1, h2, h3, trivial⟩
  | _, r :: l, p, h, hq, h1, h2, h3 => ⟨h.1, h.2.1, h.2.2.1, asc_snoc h.2.2.2 (fun q hq' => hq q (List.mem_cons_of_mem _ hq')) (by have := hq r List.mem_cons_self; omega) h2 h3⟩
theorem given_wp {n k : Nat} {w : Int} (h : Pond S n k) (hk : k ≤ 10 ^ 11) (hw : 1 ≤ w) (hw2 : w ≤ 10 ^ 31)
    (q : ∀ F S', MP.Asc 1 F → F.length ≤ 6 → (∀ p ∈ F, p.2.1 ≤ 12 * w + 12 ∧ p.2.2 ≤ w + 2) → Pond S' n (k + 50) → Fr S S' n → QL (F.map encT) S') : wp (g__law_given [.ref n, .int w] S) QL E := by
  have zz := z24
  push_cast [g__law_given, B__law_given]
  refine dip_wp h (by omega) (by decide) (by decide) fun v S1 v0 v1 hp hf => ?_
  push_cast [w_rangeI v0 (by omega)]
  refine for_st (σ := Cells × List MP.T × Int × Option D × Option D) (fun i : Nat => D.int i)
    (fun s => [some (.ref n), some (.int w), some (.ref S.length), some (.int s.2.2.1), s.2.2.2.1, s.2.2.2.2]) (fun s => s.1 ++ [⟨true, .lst (s.2.1.map encT)⟩])
    (fun s r => Pond s.1 n (k + 1 + 7 * s.2.1.length) ∧ Fr S s.1 n ∧ MP.Asc 1 s.2.1 ∧ (∀ p ∈ s.2.1, p.2.1 ≤ s.2.2.1 ∧ p.2.2 ≤ w + 2) ∧ 0 ≤ s.2.2.1 ∧ s.2.2.1 ≤ s.2.1.length * (2 * w + 2) ∧ s.2.1.length + r.length ≤ 6)
    (List.range v.toNat) (S1, [], 0, none, none) ⟨hp, hf, trivial, by simp, Int.le_refl _, by simp, by simp; omega⟩ ?_ ?_
  · rintro ⟨S2, F, last, x4, x5⟩ i r ⟨hp, hf, ha, hb, hl0, hl1, hz⟩
    simp only [List.length_cons] at hp hf ha hb hl0 hl1 hz
    push_cast [L1__law_given]
    refine dip_wp hp (by omega) (by omega) (by omega) fun a1 S3 p0 p1 hp hf3 => ?_
    have hf := hf.trans hf3
    push_cast [hf.len]
    refine dip_wp hp (by omega) (by omega) (by omega) fun a2 S4 r0 r1 hp hf4 => ?_
    have hf := hf.trans hf4
    push_cast [hf.len]
    refine at_int3 r0 r1 fun low hlow => ?_
    push_cast [hf.len]
    refine dip_wp hp (by omega) (by omega) (by omega) fun a3 S5 _ _ hp hf5 => ?_
    have hf := hf.trans hf5
    push_cast [hf.len]
    refine dip_wp hp (by omega) (by omega) (by omega) fun a4 S6 _ _ hp hf6 => ?_
    have hf := hf.trans hf6
    push_cast [hf.len]
    refine dip_wp hp (by omega) (by omega) (by omega) fun a5 S7 r0 r1 hp hf7 => ?_
    have hf := hf.trans hf7
    push_cast [hf.len]
    refine at_int3 r0 r1 fun hi hhi => ?_
    push_cast [hf.len]
    refine dip_wp hp (by omega) (by omega) (by omega) fun a6 S8 _ _ hp hf8 => ?_
    have hf := hf.trans hf8
    push_cast [hf.len]
    refine dip_wp hp (by omega) (by omega) (by omega) fun a7 S9 r0 r1 hp hf9 => ?_
    have hf := hf.trans hf9
    push_cast [hf.len]
    refine at_int3 r0 r1 fun t ht => ?_
    push_cast [hf.len]
    have hz1 : F.length < sizeLine := by omega
    refine ⟨hz1, ⟨S9, F ++ [(last + 1 + low, last + 1 + low + hi, t)], _, _, _⟩, rfl, ?_, ?_⟩
    · rw [List.map_append]; rfl
    have lw : 0 ≤ low ∧ low < w := by omega
    have hw3 : 0 ≤ hi ∧ hi ≤ w + 1 := by omega
    have ht1 : 1 ≤ t ∧ t ≤ w + 2 := by omega
    have el : ((F.length + 1 : Nat) : Int) * (2 * w + 2) = F.length * (2 * w + 2) + (2 * w + 2) := by rw [Int.natCast_add, Int.add_mul]; omega
    refine ⟨hp.mono (by simp; omega), hf, asc_snoc ha (fun q hq => by have := hb q hq; show _ < last + 1 + low; omega) (by show 1 ≤ last + 1 + low; omega) (by show last + 1 + low ≤ last + 1 + low + hi; omega) (by show 0 < t; omega), ?_, ?_, ?_, ?_⟩
    · intro p hpm
      rcases List.mem_append.mp hpm with hpm | hpm
      · have := hb p hpm
        show _ ≤ last + 1 + low + hi ∧ _
        omega
      · rw [List.mem_singleton] at hpm
        subst hpm
        exact ⟨Int.le_refl _, ht1.2⟩
    · show 0 ≤ last + 1 + low + hi
      omega
    · rw [List.length_append, List.length_singleton]
      show last + 1 + low + hi ≤ _
      omega
    · rw [List.length_append, List.length_singleton]
      omega
  · rintro ⟨S2, F, last, x4, x5⟩ ⟨hp, hf, ha, hb, hl0, hl1, hz⟩
    simp only [List.length_nil] at hp hf ha hb hl0 hl1 hz
    push_cast [hf.len]
    have el : (F.length : Int) * (2 * w + 2) ≤ 6 * (2 * w + 2) := Int.mul_le_mul_of_nonneg_right (by omega) (by omega)
    refine q F S2 ha (by omega) (fun p hp => ?_) (hp.mono (by omega)) hf
    have := hb p hp
    omega
end

end K12
end
section
set_option maxHeartbeats 4000000
set_option exponentiation.threshold 3000
namespace K12
open PySem PySem.Spec L2 DL
open PyProof.Rows hiding St
open Lean in
local macro_rules | `(tactic| push_cast [$ts,*]) => `(tactic| simp only [↓DL.r0, ↓DL.r1, ↓DL.r2, ↓DL.r3, ↓DL.r4, ↓DL.r5, ↓DL.r6, ↓DL.r7, ↓DL.r8, ↓DL.r9, ↓DL.r10, ↓DL.r11, ↓DL.r12, ↓DL.r13, ↓DL.r14, ↓DL.r15, ↓DL.r16, ↓DL.r17, ↓DL.r18, ↓DL.r19, ↓DL.r20, ↓DL.r21, ↓DL.r22, ↓DL.r23, ↓DL.r24, ↓DL.r25, ↓DL.r26, ↓DL.r27, ↓DL.r28, ↓DL.r29, DL.s0, DL.s1, DL.s2, DL.s3, DL.s4, DL.s5, DL.s6, DL.s7, DL.s8, DL.s9, DL.s10, DL.s11, DL.s12, DL.s13, DL.s14, DL.s15, DL.s16, DL.s17, DL.s18, DL.s19, DL.s20, DL.s21, DL.s22, DL.s23, DL.s24, DL.s25, DL.s26, DL.s27, DL.s28, DL.s29, DL.startD_cons, DL.startD_nil, DL.startD_zero, ↓DL.w_ok, ↓DL.w_some, ↓DL.w_somec, ↓DL.w_bind, ↓DL.w_opt, ↓DL.w_chg, ↓DL.w_kon, ↓DL.w_calm, ↓DL.w_b2, ↓DL.w_b2L, ↓DL.w_b1, ↓DL.wB_bl, ↓DL.w_asB, ↓DL.w_b2T, ↓DL.w_chE, ↓DL.w_chT, ↓DL.w_not, ↓DL.w_val, ↓DL.w_notE, ↓DL.w_ifE, ↓DL.w_ifL, ↓DL.w_andM, ↓DL.w_orM, ↓DL.w_andE, ↓DL.w_orE, ↓DL.w_nil, ↓DL.w_cons, ↓DL.w_tup, ↓DL.w_lst, ↓DL.w_frz, ↓DL.w_new, ↓DL.w_cel, ↓DL.w_cb, ↓DL.w_cbL, ↓DL.w_call, ↓DL.w_callL, ↓DL.w_ar0, ↓DL.w_ar1, ↓DL.w_ar2, ↓DL.w_ar3, ↓DL.w_ar4, ↓DL.w_ar5, ↓DL.w_ar6, ↓DL.w_noO, ↓DL.w_smO, ↓DL.w_sl, ↓DL.w_slL, ↓DL.w_rev, ↓DL.w_step, ↓DL.w_isi, ↓DL.w_sets, ↓DL.w_lrg, ↓DL.w_mth, ↓DL.w_mth0, ↓DL.w_itS, ↓DL.w_itR1, ↓DL.w_itR2, ↓DL.w_itR3, ↓DL.w_itZ, ↓DL.w_itN, ↓DL.w_lc, ↓DL.w_nx, ↓DL.w_rt, ↓DL.w_seq, ↓DL.w_set, ↓DL.wPar_2, ↓DL.w_par, ↓DL.w_aug, ↓DL.w_sto, ↓DL.w_exp, ↓DL.w_ret, ↓DL.w_retN, ↓DL.w_nxS, ↓DL.w_ifS, ↓DL.w_for, ↓DL.w_asg, ↓DL.w_stk, ↓DL.w_body, ↓DL.w_bodyL, ↓DL.wret_non, ↓DL.wret_bl, ↓DL.wret_int, ↓DL.wret_str, ↓DL.wif_t, ↓DL.wif_f, ↓DL.wif_d, ↓DL.wif_n, ↓DL.wif_a, ↓DL.wif_o, DL.few0, DL.few1, DL.few2, DL.few3, DL.few4, DL.few5, DL.few6, DL.few7, DL.few8, DL.few9, DL.few10, true_and, and_true, ↓DL.a_nm, ↓DL.a_tp1, ↓DL.a_tp2, ↓DL.a_tp3, ↓DL.a_tp4, ↓DL.a_tp5, ↓DL.a_tpn, ↓DL.a_tpm, ↓DL.a_encP, DL.wipe_nil, DL.wipe_cons, DL.o_add, DL.o_sub, DL.o_neg, ↓DL.o_mul, ↓DL.o_div, ↓DL.o_mod, DL.o_pow, ↓DL.o_p10_3, ↓DL.o_p10_4, ↓DL.o_p10_6, ↓DL.o_p10_8, ↓DL.o_p10_9, ↓DL.o_p10_12, ↓DL.o_p10_15, ↓DL.o_p10_18, ↓DL.o_p10_20, ↓DL.o_p10_25, ↓DL.o_p10_26, ↓DL.o_p10_27, ↓DL.o_p10_28, ↓DL.o_p10_29, ↓DL.o_p10_30, ↓DL.o_p10_31, ↓DL.o_p10_36, ↓DL.o_p10_38, ↓DL.o_p10_40, ↓DL.o_p10_42, ↓DL.o_p10_44, ↓DL.o_p10_46, ↓DL.o_p10_48, ↓DL.o_p10_50, ↓DL.o_p10_60, ↓DL.o_p10_64, ↓DL.o_p10_70, ↓DL.o_p10_90, ↓DL.o_p10_99, ↓DL.o_p10_100, ↓DL.o_addS, ↓DL.o_addT, ↓DL.o_catL, ↓DL.o_addL, DL.o_lt, DL.o_le, DL.o_gt, DL.o_ge, DL.o_eqI, DL.o_neI, DL.o_eqS, DL.o_neS, DL.o_is, DL.o_isn, DL.n_non, DL.n_bl, DL.n_int, DL.n_str, DL.n_lst, DL.n_tup, DL.n_ref, DL.n_obj, DL.i_non_int, DL.i_non_bool, DL.i_non_str, DL.i_non_list, DL.i_non_tuple, DL.i_bl_int, DL.i_bl_bool, DL.i_bl_str, DL.i_bl_list, DL.i_bl_tuple, DL.i_int_int, DL.i_int_bool, DL.i_int_str, DL.i_int_list, DL.i_int_tuple, DL.i_str_int, DL.i_str_bool, DL.i_str_str, DL.i_str_list, DL.i_str_tuple, DL.i_lst_int, DL.i_lst_bool, DL.i_lst_str, DL.i_lst_list, DL.i_lst_tuple, DL.i_tup_int, DL.i_tup_bool, DL.i_tup_str, DL.i_tup_list, DL.i_tup_tuple, DL.t_non, DL.t_bl, DL.t_int, DL.t_lst, DL.t_tup, ↓DL.x_lst, ↓DL.x_tup, ↓DL.x_encP0, ↓DL.x_encP1, DL.ixn1_0, DL.ixn1_m1, DL.ixn2_0, DL.ixn2_1, DL.ixn2_m1, DL.ixn3_0, DL.ixn3_1, DL.ixn3_2, DL.ixn3_m1, DL.ixn4_0, DL.ixn4_1, DL.ixn4_2, DL.ixn4_3, DL.ixn4_m1, DL.ixn5_0, DL.ixn5_1, DL.ixn5_2, DL.ixn5_3, DL.ixn5_4, DL.ixn5_m1, DL.ixn6_0, DL.ixn6_1, DL.ixn6_2, DL.ixn6_3, DL.ixn6_4, DL.ixn6_5, DL.ixn6_m1, DL.ixn7_0, DL.ixn7_1, DL.ixn7_2, DL.ixn7_3, DL.ixn7_4, DL.ixn7_5, DL.ixn7_6, DL.ixn7_m1, DL.ixn8_0, DL.ixn8_1, DL.ixn8_2, DL.ixn8_3, DL.ixn8_4, DL.ixn8_5, DL.ixn8_6, DL.ixn8_7, DL.ixn8_m1, ↓DL.x1_0, ↓DL.x1_m1, ↓DL.x2_0, ↓DL.x2_1, ↓DL.x2_m1, ↓DL.x3_0, ↓DL.x3_1, ↓DL.x3_2, ↓DL.x3_m1, ↓DL.x4_0, ↓DL.x4_1, ↓DL.x4_2, ↓DL.x4_3, ↓DL.x4_m1, ↓DL.x5_0, ↓DL.x5_1, ↓DL.x5_2, ↓DL.x5_3, ↓DL.x5_4, ↓DL.x5_m1, ↓DL.x6_0, ↓DL.x6_1, ↓DL.x6_2, ↓DL.x6_3, ↓DL.x6_4, ↓DL.x6_5, ↓DL.x6_m1, ↓DL.x7_0, ↓DL.x7_1, ↓DL.x7_2, ↓DL.x7_3, ↓DL.x7_4, ↓DL.x7_5, ↓DL.x7_6, ↓DL.x7_m1, ↓DL.x8_0, ↓DL.x8_1, ↓DL.x8_2, ↓DL.x8_3, ↓DL.x8_4, ↓DL.x8_5, ↓DL.x8_6, ↓DL.x8_7, ↓DL.x8_m1, DL.c_abs, DL.c_max2, DL.c_min2, DL.c_int, DL.c_intb, DL.c_lenS, DL.c_lenT, DL.c_lenL, DL.c_listT, DL.c_listL, DL.c_tupT, DL.c_tupL, DL.c_sum, DL.c_sum0, DL.c_all, DL.c_any, DL.c_minP, DL.c_maxP, DL.c_sortP, DL.c_zip, DL.c_enum, DL.c_range1, DL.c_range2, DL.g_lst, DL.g_tup, DL.g_str, DL.p_int, DL.sq_lst, DL.sl_lst, DL.sl_tup, DL.sl_str, DL.slL_lst, DL.om_some, List.set_cons_zero, List.set_cons_succ, DL.m_tyL, DL.m_tyS, DL.m_ty, DL.m_app, DL.m_sto, DL.m_fzL, DL.m_fzI, DL.m_fzT, DL.m_fz, DL.x_ref, DL.c_lenR, DL.c_listR, DL.c_tupR, DL.sl_ref, DL.atL_new, DL.atL_new1, DL.atL_new2, DL.atL_old, DL.set_new, DL.set_new1, DL.set_new2, DL.set_old, DL.take_app, DL.app_app, DL.cons_app, DL.nil_app, DL.len_app1, DL.len_app2, DL.len_app3, DL.len_set, DL.seq_new, DL.seq_new1, DL.seq_new2, DL.seq_old, DL.ex_some, DL.fl_non, DL.fl_int, DL.fl_bl, DL.fl_str, DL.fl_tup, DL.fl_lst, DL.fl_obj, DL.fl_nil, DL.fl_cons, DL.fl_app, DL.fl_encP, Bool.and_self, Bool.and_true, Bool.true_and, List.set_set, ↓DL.w_yes, ↓DL.w_fld, ↓DL.w_mt, ↓DL.w_mtL, ↓DL.w_mt0, ↓DL.w_mt0L, ↓DL.w_ic, DL.isO_obj, ↓DL.w_make, ↓DL.w_b2M, ↓DL.w_b2MT, DL.c_intU, DL.c_intbU, ↓DL.w_mthL, ↓DL.w_uM, ↓DL.w_inv, ↓DL.w_bin_obj, ↓DL.w_bin_int, ↓DL.w_fldS, DL.m_fld, DL.atI_new, DL.putD, ↓DL.w_repL, ↓DL.w_isiC, ↓DL.w_par3, ↓DL.wPar3_3, DL.m_count, DL.wretL_new, DL.wret_new, ↓DL.c_setSort, DL.o_addI, DL.o_inS, DL.o_ninS, ↓DL.c_str, ↓DL.c_intSw, ↓DL.m_ext, DL.slt_l, DL.slt_t, DL.slt_r, ↓DL.c_dm, ↓DL.c_split, ↓DL.c_join, ↓DL.c_rep, ↓DL.x_str, ↓DL.o_catRL, ↓DL.o_addRL, ↓DL.wret_tup, ↓DL.wret_lst, List.take_length, List.length_cons, List.length_nil, List.length_map, Int.cast_ofNat_Int, Bool.not_true, Bool.not_false, Int.reduceAdd, Int.reduceSub, Int.reduceMul, Int.reduceNeg, Int.reduceEq, Int.reduceLT, Int.reduceLE, Nat.reduceAdd, Nat.reduceSub, eq_self, not_true_eq_false, not_false_eq_true, false_implies, implies_true, true_implies, ff_Profile_own_cold, ff_Profile_own_pieces, fm_Profile_pieces, fm_Profile_accesses, fm_Profile_cold, isf_Profile_Profile, isf_Profile_0s, isf_Profile_0i, isf_Profile_0l, isf_Profile_0t, isf_Profile_0n, isf_Profile_0b, isf_Profile_0d, $ts,*])
open Lean in
local macro_rules | `(tactic| push_cast) => `(tactic| simp only [↓DL.r0, ↓DL.r1, ↓DL.r2, ↓DL.r3, ↓DL.r4, ↓DL.r5, ↓DL.r6, ↓DL.r7, ↓DL.r8, ↓DL.r9, ↓DL.r10, ↓DL.r11, ↓DL.r12, ↓DL.r13, ↓DL.r14, ↓DL.r15, ↓DL.r16, ↓DL.r17, ↓DL.r18, ↓DL.r19, ↓DL.r20, ↓DL.r21, ↓DL.r22, ↓DL.r23, ↓DL.r24, ↓DL.r25, ↓DL.r26, ↓DL.r27, ↓DL.r28, ↓DL.r29, DL.s0, DL.s1, DL.s2, DL.s3, DL.s4, DL.s5, DL.s6, DL.s7, DL.s8, DL.s9, DL.s10, DL.s11, DL.s12, DL.s13, DL.s14, DL.s15, DL.s16, DL.s17, DL.s18, DL.s19, DL.s20, DL.s21, DL.s22, DL.s23, DL.s24, DL.s25, DL.s26, DL.s27, DL.s28, DL.s29, DL.startD_cons, DL.startD_nil, DL.startD_zero, ↓DL.w_ok, ↓DL.w_some, ↓DL.w_somec, ↓DL.w_bind, ↓DL.w_opt, ↓DL.w_chg, ↓DL.w_kon, ↓DL.w_calm, ↓DL.w_b2, ↓DL.w_b2L, ↓DL.w_b1, ↓DL.wB_bl, ↓DL.w_asB, ↓DL.w_b2T, ↓DL.w_chE, ↓DL.w_chT, ↓DL.w_not, ↓DL.w_val, ↓DL.w_notE, ↓DL.w_ifE, ↓DL.w_ifL, ↓DL.w_andM, ↓DL.w_orM, ↓DL.w_andE, ↓DL.w_orE, ↓DL.w_nil, ↓DL.w_cons, ↓DL.w_tup, ↓DL.w_lst, ↓DL.w_frz, ↓DL.w_new, ↓DL.w_cel, ↓DL.w_cb, ↓DL.w_cbL, ↓DL.w_call, ↓DL.w_callL, ↓DL.w_ar0, ↓DL.w_ar1, ↓DL.w_ar2, ↓DL.w_ar3, ↓DL.w_ar4, ↓DL.w_ar5, ↓DL.w_ar6, ↓DL.w_noO, ↓DL.w_smO, ↓DL.w_sl, ↓DL.w_slL, ↓DL.w_rev, ↓DL.w_step, ↓DL.w_isi, ↓DL.w_sets, ↓DL.w_lrg, ↓DL.w_mth, ↓DL.w_mth0, ↓DL.w_itS, ↓DL.w_itR1, ↓DL.w_itR2, ↓DL.w_itR3, ↓DL.w_itZ, ↓DL.w_itN, ↓DL.w_lc, ↓DL.w_nx, ↓DL.w_rt, ↓DL.w_seq, ↓DL.w_set, ↓DL.wPar_2, ↓DL.w_par, ↓DL.w_aug, ↓DL.w_sto, ↓DL.w_exp, ↓DL.w_ret, ↓DL.w_retN, ↓DL.w_nxS, ↓DL.w_ifS, ↓DL.w_for, ↓DL.w_asg, ↓DL.w_stk, ↓DL.w_body, ↓DL.w_bodyL, ↓DL.wret_non, ↓DL.wret_bl, ↓DL.wret_int, ↓DL.wret_str, ↓DL.wif_t, ↓DL.wif_f, ↓DL.wif_d, ↓DL.wif_n, ↓DL.wif_a, ↓DL.wif_o, DL.few0, DL.few1, DL.few2, DL.few3, DL.few4, DL.few5, DL.few6, DL.few7, DL.few8, DL.few9, DL.few10, true_and, and_true, ↓DL.a_nm, ↓DL.a_tp1, ↓DL.a_tp2, ↓DL.a_tp3, ↓DL.a_tp4, ↓DL.a_tp5, ↓DL.a_tpn, ↓DL.a_tpm, ↓DL.a_encP, DL.wipe_nil, DL.wipe_cons, DL.o_add, DL.o_sub, DL.o_neg, ↓DL.o_mul, ↓DL.o_div, ↓DL.o_mod, DL.o_pow, ↓DL.o_p10_3, ↓DL.o_p10_4, ↓DL.o_p10_6, ↓DL.o_p10_8, ↓DL.o_p10_9, ↓DL.o_p10_12, ↓DL.o_p10_15, ↓DL.o_p10_18, ↓DL.o_p10_20, ↓DL.o_p10_25, ↓DL.o_p10_26, ↓DL.o_p10_27, ↓DL.o_p10_28, ↓DL.o_p10_29, ↓DL.o_p10_30, ↓DL.o_p10_31, ↓DL.o_p10_36, ↓DL.o_p10_38, ↓DL.o_p10_40, ↓DL.o_p10_42, ↓DL.o_p10_44, ↓DL.o_p10_46, ↓DL.o_p10_48, ↓DL.o_p10_50, ↓DL.o_p10_60, ↓DL.o_p10_64, ↓DL.o_p10_70, ↓DL.o_p10_90, ↓DL.o_p10_99, ↓DL.o_p10_100, ↓DL.o_addS, ↓DL.o_addT, ↓DL.o_catL, ↓DL.o_addL, DL.o_lt, DL.o_le, DL.o_gt, DL.o_ge, DL.o_eqI, DL.o_neI, DL.o_eqS, DL.o_neS, DL.o_is, DL.o_isn, DL.n_non, DL.n_bl, DL.n_int, DL.n_str, DL.n_lst, DL.n_tup, DL.n_ref, DL.n_obj, DL.i_non_int, DL.i_non_bool, DL.i_non_str, DL.i_non_list, DL.i_non_tuple, DL.i_bl_int, DL.i_bl_bool, DL.i_bl_str, DL.i_bl_list, DL.i_bl_tuple, DL.i_int_int, DL.i_int_bool, DL.i_int_str, DL.i_int_list, DL.i_int_tuple, DL.i_str_int, DL.i_str_bool, DL.i_str_str, DL.i_str_list, DL.i_str_tuple, DL.i_lst_int, DL.i_lst_bool, DL.i_lst_str, DL.i_lst_list, DL.i_lst_tuple, DL.i_tup_int, DL.i_tup_bool, DL.i_tup_str, DL.i_tup_list, DL.i_tup_tuple, DL.t_non, DL.t_bl, DL.t_int, DL.t_lst, DL.t_tup, ↓DL.x_lst, ↓DL.x_tup, ↓DL.x_encP0, ↓DL.x_encP1, DL.ixn1_0, DL.ixn1_m1, DL.ixn2_0, DL.ixn2_1, DL.ixn2_m1, DL.ixn3_0, DL.ixn3_1, DL.ixn3_2, DL.ixn3_m1, DL.ixn4_0, DL.ixn4_1, DL.ixn4_2, DL.ixn4_3, DL.ixn4_m1, DL.ixn5_0, DL.ixn5_1, DL.ixn5_2, DL.ixn5_3, DL.ixn5_4, DL.ixn5_m1, DL.ixn6_0, DL.ixn6_1, DL.ixn6_2, DL.ixn6_3, DL.ixn6_4, DL.ixn6_5, DL.ixn6_m1, DL.ixn7_0, DL.ixn7_1, DL.ixn7_2, DL.ixn7_3, DL.ixn7_4, DL.ixn7_5, DL.ixn7_6, DL.ixn7_m1, DL.ixn8_0, DL.ixn8_1, DL.ixn8_2, DL.ixn8_3, DL.ixn8_4, DL.ixn8_5, DL.ixn8_6, DL.ixn8_7, DL.ixn8_m1, ↓DL.x1_0, ↓DL.x1_m1, ↓DL.x2_0, ↓DL.x2_1, ↓DL.x2_m1, ↓DL.x3_0, ↓DL.x3_1, ↓DL.x3_2, ↓DL.x3_m1, ↓DL.x4_0, ↓DL.x4_1, ↓DL.x4_2, ↓DL.x4_3, ↓DL.x4_m1, ↓DL.x5_0, ↓DL.x5_1, ↓DL.x5_2, ↓DL.x5_3, ↓DL.x5_4, ↓DL.x5_m1, ↓DL.x6_0, ↓DL.x6_1, ↓DL.x6_2, ↓DL.x6_3, ↓DL.x6_4, ↓DL.x6_5, ↓DL.x6_m1, ↓DL.x7_0, ↓DL.x7_1, ↓DL.x7_2, ↓DL.x7_3, ↓DL.x7_4, ↓DL.x7_5, ↓DL.x7_6, ↓DL.x7_m1, ↓DL.x8_0, ↓DL.x8_1, ↓DL.x8_2, ↓DL.x8_3, ↓DL.x8_4, ↓DL.x8_5, ↓DL.x8_6, ↓DL.x8_7, ↓DL.x8_m1, DL.c_abs, DL.c_max2, DL.c_min2, DL.c_int, DL.c_intb, DL.c_lenS, DL.c_lenT, DL.c_lenL, DL.c_listT, DL.c_listL, DL.c_tupT, DL.c_tupL, DL.c_sum, DL.c_sum0, DL.c_all, DL.c_any, DL.c_minP, DL.c_maxP, DL.c_sortP, DL.c_zip, DL.c_enum, DL.c_range1, DL.c_range2, DL.g_lst, DL.g_tup, DL.g_str, DL.p_int, DL.sq_lst, DL.sl_lst, DL.sl_tup, DL.sl_str, DL.slL_lst, DL.om_some, List.set_cons_zero, List.set_cons_succ, DL.m_tyL, DL.m_tyS, DL.m_ty, DL.m_app, DL.m_sto, DL.m_fzL, DL.m_fzI, DL.m_fzT, DL.m_fz, DL.x_ref, DL.c_lenR, DL.c_listR, DL.c_tupR, DL.sl_ref, DL.atL_new, DL.atL_new1, DL.atL_new2, DL.atL_old, DL.set_new, DL.set_new1, DL.set_new2, DL.set_old, DL.take_app, DL.app_app, DL.cons_app, DL.nil_app, DL.len_app1, DL.len_app2, DL.len_app3, DL.len_set, DL.seq_new, DL.seq_new1, DL.seq_new2, DL.seq_old, DL.ex_some, DL.fl_non, DL.fl_int, DL.fl_bl, DL.fl_str, DL.fl_tup, DL.fl_lst, DL.fl_obj, DL.fl_nil, DL.fl_cons, DL.fl_app, DL.fl_encP, Bool.and_self, Bool.and_true, Bool.true_and, List.set_set, ↓DL.w_yes, ↓DL.w_fld, ↓DL.w_mt, ↓DL.w_mtL, ↓DL.w_mt0, ↓DL.w_mt0L, ↓DL.w_ic, DL.isO_obj, ↓DL.w_make, ↓DL.w_b2M, ↓DL.w_b2MT, DL.c_intU, DL.c_intbU, ↓DL.w_mthL, ↓DL.w_uM, ↓DL.w_inv, ↓DL.w_bin_obj, ↓DL.w_bin_int, ↓DL.w_fldS, DL.m_fld, DL.atI_new, DL.putD, ↓DL.w_repL, ↓DL.w_isiC, ↓DL.w_par3, ↓DL.wPar3_3, DL.m_count, DL.wretL_new, DL.wret_new, ↓DL.c_setSort, DL.o_addI, DL.o_inS, DL.o_ninS, ↓DL.c_str, ↓DL.c_intSw, ↓DL.m_ext, DL.slt_l, DL.slt_t, DL.slt_r, ↓DL.c_dm, ↓DL.c_split, ↓DL.c_join, ↓DL.c_rep, ↓DL.x_str, ↓DL.o_catRL, ↓DL.o_addRL, ↓DL.wret_tup, ↓DL.wret_lst, List.take_length, List.length_cons, List.length_nil, List.length_map, Int.cast_ofNat_Int, Bool.not_true, Bool.not_false, Int.reduceAdd, Int.reduceSub, Int.reduceMul, Int.reduceNeg, Int.reduceEq, Int.reduceLT, Int.reduceLE, Nat.reduceAdd, Nat.reduceSub, eq_self, not_true_eq_false, not_false_eq_true, false_implies, implies_true, true_implies, ff_Profile_own_cold, ff_Profile_own_pieces, fm_Profile_pieces, fm_Profile_accesses, fm_Profile_cold, isf_Profile_Profile, isf_Profile_0s, isf_Profile_0i, isf_Profile_0l, isf_Profile_0t, isf_Profile_0n, isf_Profile_0b, isf_Profile_0d])
section
variable {S R : Cells} {E : Xc → Cells → Prop} {Q : D → Cells → Prop} {QL : List D → Cells → Prop}
theorem pond_wp {ns : List Int} {i : Int} (hi : 0 ≤ i) (hi2 : i < 100) (q : ∀ l : List D, flatL l = true → (∀ S : Cells, Pond (S ++ [⟨true, .lst l⟩]) S.length 0) → QL l S) : wp (g__law_pond [.lst (ns.map .int), .int i] S) QL E := by
  have em : okMul 179424673 i = true := sm_mul (sm_of (by decide) (by decide)) (sm_of hi (by omega))
  have key : ∀ a b : Int, 0 ≤ b → b < 10 ^ 50 → QL [.int a, .int b, .int 0] S := fun a b h1 h2 => q _ (by simp only [fl_cons, fl_int, fl_nil]; rfl) fun S => ⟨a, b, 0, by simp [pondL], h1, h2, Int.le_refl _, Int.le_refl _⟩
  push_cast [g__law_pond, B__law_pond, em]
  refine ⟨fun h => ?_, fun h => ⟨sm_mul (sm_of (by decide) (by decide)) (sm_of (by decide) (by decide)), key _ _ (by omega) (by omega)⟩⟩
  have hg : ns[i.toNat]? = some (ns.getD i.toNat 0) := by rw [List.getD_eq_getElem?_getD, List.getElem?_eq_getElem (by omega)]; rfl
  generalize ns.getD i.toNat 0 = a at hg
  have b1 := Int.emod_nonneg a (b := 100000000000000000000000000000000000133) (by decide)
  have b2 := Int.emod_lt_of_pos a (b := 100000000000000000000000000000000000133) (by decide)
  push_cast [wAt_map (enc := D.int) (k := i) (n := i.toNat) (by omega) hg, em]
  exact ⟨sm_mul (sm_of b1 (by omega)) (sm_of (by decide) (by decide)), key _ _ (by omega) (by omega)⟩
theorem many_wp {n k : Nat} {m : Int} (h : Pond S n k) (hk : k ≤ 10 ^ 11) (hm : 0 ≤ m) (hm2 : m ≤ 1000)
    (q : ∀ F S', MP.Asc 1 F → F.length ≤ m.toNat → (∀ p ∈ F, p.2.1 ≤ 5 * m ∧ p.2.2 ≤ 3) → Pond S' n (k + 5000) → Fr S S' n → QL (F.map encT) S') : wp (g__law_many [.ref n, .int m] S) QL E := by
  have zz := z24
  push_cast [g__law_many, B__law_many, w_rangeI hm (show m ≤ sizeLine by omega)]
  refine for_st (σ := Cells × List MP.T × Int × Int × Option D × Option D) (fun i : Nat => D.int i)
    (fun s => [some (.ref n), some (.int m), some (.ref S.length), some (.int s.2.2.1), some (.int s.2.2.2.1), s.2.2.2.2.1, s.2.2.2.2.2]) (fun s => s.1 ++ [⟨true, .lst (s.2.1.map encT)⟩])
    (fun s r => Pond s.1 n (k + 5 * s.2.1.length) ∧ Fr S s.1 n ∧ MP.Asc 1 s.2.1 ∧ (∀ p ∈ s.2.1, p.2.1 ≤ s.2.2.1 ∧ p.2.2 ≤ 3) ∧ 0 ≤ s.2.2.1 ∧ s.2.2.1 ≤ 5 * s.2.1.length ∧ s.2.1.length + r.length ≤ m.toNat ∧ 1 ≤ s.2.2.2.1 ∧ s.2.2.2.1 ≤ 3)
    (List.range m.toNat) (S, [], 0, 1, none, none) ⟨h.mono (by omega), Fr.refl _ _, trivial, by simp, Int.le_refl _, by simp, by simp, Int.le_refl _, by show (1 : Int) ≤ 3; decide⟩ ?_ ?_
  · rintro ⟨S2, F, last, often, x4, x5⟩ i r ⟨hp, hf, ha, hb, hl0, hl1, hz, ho⟩
    simp only [List.length_cons] at hp hf ha hb hl0 hl1 hz ho
    have fin : ∀ (S3 : Cells) (last' last2 often' : Int) (x4 x5 : Option D), Pond S3 n (k + 5 * F.length + 5) → Fr S S3 n → last ≤ last' → last' ≤ last + 2 → last' + 1 ≤ last2 → last2 ≤ last' + 3 → 1 ≤ often' → often' ≤ 3 →
        F.length < sizeLine ∧ ∃ s' : Cells × List MP.T × Int × Int × Option D × Option D, [some (D.ref n), some (D.int m), some (D.ref (List.length S)), some (D.int last2), some (D.int often'), x4, x5] = [some (D.ref n), some (D.int m), some (D.ref (List.length S)), some (D.int s'.2.2.1), some (D.int s'.2.2.2.1), s'.2.2.2.2.1, s'.2.2.2.2.2] ∧
          S3 ++ [⟨true, .lst (F.map encT ++ [.tup [.int (last' + 1), .int last2, .int often']])⟩] = s'.1 ++ [⟨true, .lst (s'.2.1.map encT)⟩] ∧ Pond s'.1 n (k + 5 * s'.2.1.length) ∧ Fr S s'.1 n ∧ MP.Asc 1 s'.2.1 ∧ (∀ p ∈ s'.2.1, p.2.1 ≤ s'.2.2.1 ∧ p.2.2 ≤ 3) ∧ 0 ≤ s'.2.2.1 ∧ s'.2.2.1 ≤ 5 * s'.2.1.length ∧ s'.2.1.length + r.length ≤ m.toNat ∧ 1 ≤ s'.2.2.2.1 ∧ s'.2.2.2.1 ≤ 3 := by
      intro S3 last' last2 often' x4 x5 hp hf l1 l2 l3 l4 o1 o2
      refine ⟨by omega, (S3, F ++ [(last' + 1, last2, often')], last2, often', x4, x5), rfl, by rw [List.map_append]; rfl, hp.mono (by simp; omega), hf, asc_snoc ha (fun q hq => by have := hb q hq; show _ < last' + 1; omega) (by show 1 ≤ last' + 1; omega) l3 (by show 0 < often'; omega), ?_, by show 0 ≤ last2; omega, ?_, ?_, o1, o2⟩
      · intro p hpm
        rcases List.mem_append.mp hpm with hpm | hpm
        · have := hb p hpm
          show _ ≤ last2 ∧ _
          omega
        · rw [List.mem_singleton] at hpm
          subst hpm
          exact ⟨Int.le_refl _, o2⟩
      · rw [List.length_append, List.length_singleton]
        show last2 ≤ _
        omega
      · rw [List.length_append, List.length_singleton]
        omega
    push_cast [L1__law_many]
    refine dip_wp hp (by omega) (by decide) (by decide) fun a1 S3 p0 p1 hp hf3 => ?_
    have hf := hf.trans hf3
    push_cast [hf.len]
    refine ⟨fun ha1 => ?_, fun ha1 => ?_⟩
    · refine dip_wp hp (by omega) (by decide) (by decide) fun a2 S4 r0 r1 hp hf4 => ?_
      have hf := hf.trans hf4
      push_cast [hf.len]
      refine dip_wp hp (by omega) (by decide) (by decide) fun a3 S5 s0 s1 hp hf5 => ?_
      have hf := hf.trans hf5
      push_cast [hf.len]
      refine dip_wp hp (by omega) (by decide) (by decide) fun a4 S6 t0 t1 hp hf6 => ?_
      have hf := hf.trans hf6
      push_cast [hf.len]
      exact fin S6 (last + a2) (last + a2 + 1 + a4) (1 + a3) _ _ (hp.mono (by omega)) hf (by omega) (by omega) (by omega) (by omega) (by omega) (by omega)
    · refine dip_wp hp (by omega) (by decide) (by decide) fun a4 S6 t0 t1 hp hf6 => ?_
      have hf := hf.trans hf6
      push_cast [hf.len]
      exact fin S6 last (last + 1 + a4) often _ _ (hp.mono (by omega)) hf (by omega) (by omega) (by omega) (by omega) ho.1 ho.2
  · rintro ⟨S2, F, last, often, x4, x5⟩ ⟨hp, hf, ha, hb, hl0, hl1, hz, ho⟩
    simp only [List.length_nil] at hp hf ha hb hl0 hl1 hz
    push_cast [hf.len]
    refine q F S2 ha (by omega) (fun p hp => ?_) (hp.mono (by omega)) hf
    have := hb p hp
    omega
end

end K12
end
section
set_option maxHeartbeats 4000000
set_option exponentiation.threshold 3000
namespace K12
open PySem PySem.Spec L2 DL
open PyProof.Rows hiding St
open Lean in
local macro_rules | `(tactic| push_cast [$ts,*]) => `(tactic| simp only [↓DL.r0, ↓DL.r1, ↓DL.r2, ↓DL.r3, ↓DL.r4, ↓DL.r5, ↓DL.r6, ↓DL.r7, ↓DL.r8, ↓DL.r9, ↓DL.r10, ↓DL.r11, ↓DL.r12, ↓DL.r13, ↓DL.r14, ↓DL.r15, ↓DL.r16, ↓DL.r17, ↓DL.r18, ↓DL.r19, ↓DL.r20, ↓DL.r21, ↓DL.r22, ↓DL.r23, ↓DL.r24, ↓DL.r25, ↓DL.r26, ↓DL.r27, ↓DL.r28, ↓DL.r29, DL.s0, DL.s1, DL.s2, DL.s3, DL.s4, DL.s5, DL.s6, DL.s7, DL.s8, DL.s9, DL.s10, DL.s11, DL.s12, DL.s13, DL.s14, DL.s15, DL.s16, DL.s17, DL.s18, DL.s19, DL.s20, DL.s21, DL.s22, DL.s23, DL.s24, DL.s25, DL.s26, DL.s27, DL.s28, DL.s29, DL.startD_cons, DL.startD_nil, DL.startD_zero, ↓DL.w_ok, ↓DL.w_some, ↓DL.w_somec, ↓DL.w_bind, ↓DL.w_opt, ↓DL.w_chg, ↓DL.w_kon, ↓DL.w_calm, ↓DL.w_b2, ↓DL.w_b2L, ↓DL.w_b1, ↓DL.wB_bl, ↓DL.w_asB, ↓DL.w_b2T, ↓DL.w_chE, ↓DL.w_chT, ↓DL.w_not, ↓DL.w_val, ↓DL.w_notE, ↓DL.w_ifE, ↓DL.w_ifL, ↓DL.w_andM, ↓DL.w_orM, ↓DL.w_andE, ↓DL.w_orE, ↓DL.w_nil, ↓DL.w_cons, ↓DL.w_tup, ↓DL.w_lst, ↓DL.w_frz, ↓DL.w_new, ↓DL.w_cel, ↓DL.w_cb, ↓DL.w_cbL, ↓DL.w_call, ↓DL.w_callL, ↓DL.w_ar0, ↓DL.w_ar1, ↓DL.w_ar2, ↓DL.w_ar3, ↓DL.w_ar4, ↓DL.w_ar5, ↓DL.w_ar6, ↓DL.w_noO, ↓DL.w_smO, ↓DL.w_sl, ↓DL.w_slL, ↓DL.w_rev, ↓DL.w_step, ↓DL.w_isi, ↓DL.w_sets, ↓DL.w_lrg, ↓DL.w_mth, ↓DL.w_mth0, ↓DL.w_itS, ↓DL.w_itR1, ↓DL.w_itR2, ↓DL.w_itR3, ↓DL.w_itZ, ↓DL.w_itN, ↓DL.w_lc, ↓DL.w_nx, ↓DL.w_rt, ↓DL.w_seq, ↓DL.w_set, ↓DL.wPar_2, ↓DL.w_par, ↓DL.w_aug, ↓DL.w_sto, ↓DL.w_exp, ↓DL.w_ret, ↓DL.w_retN, ↓DL.w_nxS, ↓DL.w_ifS, ↓DL.w_for, ↓DL.w_asg, ↓DL.w_stk, ↓DL.w_body, ↓DL.w_bodyL, ↓DL.wret_non, ↓DL.wret_bl, ↓DL.wret_int, ↓DL.wret_str, ↓DL.wif_t, ↓DL.wif_f, ↓DL.wif_d, ↓DL.wif_n, ↓DL.wif_a, ↓DL.wif_o, DL.few0, DL.few1, DL.few2, DL.few3, DL.few4, DL.few5, DL.few6, DL.few7, DL.few8, DL.few9, DL.few10, true_and, and_true, ↓DL.a_nm, ↓DL.a_tp1, ↓DL.a_tp2, ↓DL.a_tp3, ↓DL.a_tp4, ↓DL.a_tp5, ↓DL.a_tpn, ↓DL.a_tpm, ↓DL.a_encP, DL.wipe_nil, DL.wipe_cons, DL.o_add, DL.o_sub, DL.o_neg, ↓DL.o_mul, ↓DL.o_div, ↓DL.o_mod, DL.o_pow, ↓DL.o_p10_3, ↓DL.o_p10_4, ↓DL.o_p10_6, ↓DL.o_p10_8, ↓DL.o_p10_9, ↓DL.o_p10_12, ↓DL.o_p10_15, ↓DL.o_p10_18, ↓DL.o_p10_20, ↓DL.o_p10_25, ↓DL.o_p10_26, ↓DL.o_p10_27, ↓DL.o_p10_28, ↓DL.o_p10_29, ↓DL.o_p10_30, ↓DL.o_p10_31, ↓DL.o_p10_36, ↓DL.o_p10_38, ↓DL.o_p10_40, ↓DL.o_p10_42, ↓DL.o_p10_44, ↓DL.o_p10_46, ↓DL.o_p10_48, ↓DL.o_p10_50, ↓DL.o_p10_60, ↓DL.o_p10_64, ↓DL.o_p10_70, ↓DL.o_p10_90, ↓DL.o_p10_99, ↓DL.o_p10_100, ↓DL.o_addS, ↓DL.o_addT, ↓DL.o_catL, ↓DL.o_addL, DL.o_lt, DL.o_le, DL.o_gt, DL.o_ge, DL.o_eqI, DL.o_neI, DL.o_eqS, DL.o_neS, DL.o_is, DL.o_isn, DL.n_non, DL.n_bl, DL.n_int, DL.n_str, DL.n_lst, DL.n_tup, DL.n_ref, DL.n_obj, DL.i_non_int, DL.i_non_bool, DL.i_non_str, DL.i_non_list, DL.i_non_tuple, DL.i_bl_int, DL.i_bl_bool, DL.i_bl_str, DL.i_bl_list, DL.i_bl_tuple, DL.i_int_int, DL.i_int_bool, DL.i_int_str, DL.i_int_list, DL.i_int_tuple, DL.i_str_int, DL.i_str_bool, DL.i_str_str, DL.i_str_list, DL.i_str_tuple, DL.i_lst_int, DL.i_lst_bool, DL.i_lst_str, DL.i_lst_list, DL.i_lst_tuple, DL.i_tup_int, DL.i_tup_bool, DL.i_tup_str, DL.i_tup_list, DL.i_tup_tuple, DL.t_non, DL.t_bl, DL.t_int, DL.t_lst, DL.t_tup, ↓DL.x_lst, ↓DL.x_tup, ↓DL.x_encP0, ↓DL.x_encP1, DL.ixn1_0, DL.ixn1_m1, DL.ixn2_0, DL.ixn2_1, DL.ixn2_m1, DL.ixn3_0, DL.ixn3_1, DL.ixn3_2, DL.ixn3_m1, DL.ixn4_0, DL.ixn4_1, DL.ixn4_2, DL.ixn4_3, DL.ixn4_m1, DL.ixn5_0, DL.ixn5_1, DL.ixn5_2, DL.ixn5_3, DL.ixn5_4, DL.ixn5_m1, DL.ixn6_0, DL.ixn6_1, DL.ixn6_2, DL.ixn6_3, DL.ixn6_4, DL.ixn6_5, DL.ixn6_m1, DL.ixn7_0, DL.ixn7_1, DL.ixn7_2, DL.ixn7_3, DL.ixn7_4, DL.ixn7_5, DL.ixn7_6, DL.ixn7_m1, DL.ixn8_0, DL.ixn8_1, DL.ixn8_2, DL.ixn8_3, DL.ixn8_4, DL.ixn8_5, DL.ixn8_6, DL.ixn8_7, DL.ixn8_m1, ↓DL.x1_0, ↓DL.x1_m1, ↓DL.x2_0, ↓DL.x2_1, ↓DL.x2_m1, ↓DL.x3_0, ↓DL.x3_1, ↓DL.x3_2, ↓DL.x3_m1, ↓DL.x4_0, ↓DL.x4_1, ↓DL.x4_2, ↓DL.x4_3, ↓DL.x4_m1, ↓DL.x5_0, ↓DL.x5_1, ↓DL.x5_2, ↓DL.x5_3, ↓DL.x5_4, ↓DL.x5_m1, ↓DL.x6_0, ↓DL.x6_1, ↓DL.x6_2, ↓DL.x6_3, ↓DL.x6_4, ↓DL.x6_5, ↓DL.x6_m1, ↓DL.x7_0, ↓DL.x7_1, ↓DL.x7_2, ↓DL.x7_3, ↓DL.x7_4, ↓DL.x7_5, ↓DL.x7_6, ↓DL.x7_m1, ↓DL.x8_0, ↓DL.x8_1, ↓DL.x8_2, ↓DL.x8_3, ↓DL.x8_4, ↓DL.x8_5, ↓DL.x8_6, ↓DL.x8_7, ↓DL.x8_m1, DL.c_abs, DL.c_max2, DL.c_min2, DL.c_int, DL.c_intb, DL.c_lenS, DL.c_lenT, DL.c_lenL, DL.c_listT, DL.c_listL, DL.c_tupT, DL.c_tupL, DL.c_sum, DL.c_sum0, DL.c_all, DL.c_any, DL.c_minP, DL.c_maxP, DL.c_sortP, DL.c_zip, DL.c_enum, DL.c_range1, DL.c_range2, DL.g_lst, DL.g_tup, DL.g_str, DL.p_int, DL.sq_lst, DL.sl_lst, DL.sl_tup, DL.sl_str, DL.slL_lst, DL.om_some, List.set_cons_zero, List.set_cons_succ, DL.m_tyL, DL.m_tyS, DL.m_ty, DL.m_app, DL.m_sto, DL.m_fzL, DL.m_fzI, DL.m_fzT, DL.m_fz, DL.x_ref, DL.c_lenR, DL.c_listR, DL.c_tupR, DL.sl_ref, DL.atL_new, DL.atL_new1, DL.atL_new2, DL.atL_old, DL.set_new, DL.set_new1, DL.set_new2, DL.set_old, DL.take_app, DL.app_app, DL.cons_app, DL.nil_app, DL.len_app1, DL.len_app2, DL.len_app3, DL.len_set, DL.seq_new, DL.seq_new1, DL.seq_new2, DL.seq_old, DL.ex_some, DL.fl_non, DL.fl_int, DL.fl_bl, DL.fl_str, DL.fl_tup, DL.fl_lst, DL.fl_obj, DL.fl_nil, DL.fl_cons, DL.fl_app, DL.fl_encP, Bool.and_self, Bool.and_true, Bool.true_and, List.set_set, ↓DL.w_yes, ↓DL.w_fld, ↓DL.w_mt, ↓DL.w_mtL, ↓DL.w_mt0, ↓DL.w_mt0L, ↓DL.w_ic, DL.isO_obj, ↓DL.w_make, ↓DL.w_b2M, ↓DL.w_b2MT, DL.c_intU, DL.c_intbU, ↓DL.w_mthL, ↓DL.w_uM, ↓DL.w_inv, ↓DL.w_bin_obj, ↓DL.w_bin_int, ↓DL.w_fldS, DL.m_fld, DL.atI_new, DL.putD, ↓DL.w_repL, ↓DL.w_isiC, ↓DL.w_par3, ↓DL.wPar3_3, DL.m_count, DL.wretL_new, DL.wret_new, ↓DL.c_setSort, DL.o_addI, DL.o_inS, DL.o_ninS, ↓DL.c_str, ↓DL.c_intSw, ↓DL.m_ext, DL.slt_l, DL.slt_t, DL.slt_r, ↓DL.c_dm, ↓DL.c_split, ↓DL.c_join, ↓DL.c_rep, ↓DL.x_str, ↓DL.o_catRL, ↓DL.o_addRL, ↓DL.wret_tup, ↓DL.wret_lst, List.take_length, List.length_cons, List.length_nil, List.length_map, Int.cast_ofNat_Int, Bool.not_true, Bool.not_false, Int.reduceAdd, Int.reduceSub, Int.reduceMul, Int.reduceNeg, Int.reduceEq, Int.reduceLT, Int.reduceLE, Nat.reduceAdd, Nat.reduceSub, eq_self, not_true_eq_false, not_false_eq_true, false_implies, implies_true, true_implies, ff_Profile_own_cold, ff_Profile_own_pieces, fm_Profile_pieces, fm_Profile_accesses, fm_Profile_cold, isf_Profile_Profile, isf_Profile_0s, isf_Profile_0i, isf_Profile_0l, isf_Profile_0t, isf_Profile_0n, isf_Profile_0b, isf_Profile_0d, $ts,*])
open Lean in
local macro_rules | `(tactic| push_cast) => `(tactic| simp only [↓DL.r0, ↓DL.r1, ↓DL.r2, ↓DL.r3, ↓DL.r4, ↓DL.r5, ↓DL.r6, ↓DL.r7, ↓DL.r8, ↓DL.r9, ↓DL.r10, ↓DL.r11, ↓DL.r12, ↓DL.r13, ↓DL.r14, ↓DL.r15, ↓DL.r16, ↓DL.r17, ↓DL.r18, ↓DL.r19, ↓DL.r20, ↓DL.r21, ↓DL.r22, ↓DL.r23, ↓DL.r24, ↓DL.r25, ↓DL.r26, ↓DL.r27, ↓DL.r28, ↓DL.r29, DL.s0, DL.s1, DL.s2, DL.s3, DL.s4, DL.s5, DL.s6, DL.s7, DL.s8, DL.s9, DL.s10, DL.s11, DL.s12, DL.s13, DL.s14, DL.s15, DL.s16, DL.s17, DL.s18, DL.s19, DL.s20, DL.s21, DL.s22, DL.s23, DL.s24, DL.s25, DL.s26, DL.s27, DL.s28, DL.s29, DL.startD_cons, DL.startD_nil, DL.startD_zero, ↓DL.w_ok, ↓DL.w_some, ↓DL.w_somec, ↓DL.w_bind, ↓DL.w_opt, ↓DL.w_chg, ↓DL.w_kon, ↓DL.w_calm, ↓DL.w_b2, ↓DL.w_b2L, ↓DL.w_b1, ↓DL.wB_bl, ↓DL.w_asB, ↓DL.w_b2T, ↓DL.w_chE, ↓DL.w_chT, ↓DL.w_not, ↓DL.w_val, ↓DL.w_notE, ↓DL.w_ifE, ↓DL.w_ifL, ↓DL.w_andM, ↓DL.w_orM, ↓DL.w_andE, ↓DL.w_orE, ↓DL.w_nil, ↓DL.w_cons, ↓DL.w_tup, ↓DL.w_lst, ↓DL.w_frz, ↓DL.w_new, ↓DL.w_cel, ↓DL.w_cb, ↓DL.w_cbL, ↓DL.w_call, ↓DL.w_callL, ↓DL.w_ar0, ↓DL.w_ar1, ↓DL.w_ar2, ↓DL.w_ar3, ↓DL.w_ar4, ↓DL.w_ar5, ↓DL.w_ar6, ↓DL.w_noO, ↓DL.w_smO, ↓DL.w_sl, ↓DL.w_slL, ↓DL.w_rev, ↓DL.w_step, ↓DL.w_isi, ↓DL.w_sets, ↓DL.w_lrg, ↓DL.w_mth, ↓DL.w_mth0, ↓DL.w_itS, ↓DL.w_itR1, ↓DL.w_itR2, ↓DL.w_itR3, ↓DL.w_itZ, ↓DL.w_itN, ↓DL.w_lc, ↓DL.w_nx, ↓DL.w_rt, ↓DL.w_seq, ↓DL.w_set, ↓DL.wPar_2, ↓DL.w_par, ↓DL.w_aug, ↓DL.w_sto, ↓DL.w_exp, ↓DL.w_ret, ↓DL.w_retN, ↓DL.w_nxS, ↓DL.w_ifS, ↓DL.w_for, ↓DL.w_asg, ↓DL.w_stk, ↓DL.w_body, ↓DL.w_bodyL, ↓DL.wret_non, ↓DL.wret_bl, ↓DL.wret_int, ↓DL.wret_str, ↓DL.wif_t, ↓DL.wif_f, ↓DL.wif_d, ↓DL.wif_n, ↓DL.wif_a, ↓DL.wif_o, DL.few0, DL.few1, DL.few2, DL.few3, DL.few4, DL.few5, DL.few6, DL.few7, DL.few8, DL.few9, DL.few10, true_and, and_true, ↓DL.a_nm, ↓DL.a_tp1, ↓DL.a_tp2, ↓DL.a_tp3, ↓DL.a_tp4, ↓DL.a_tp5, ↓DL.a_tpn, ↓DL.a_tpm, ↓DL.a_encP, DL.wipe_nil, DL.wipe_cons, DL.o_add, DL.o_sub, DL.o_neg, ↓DL.o_mul, ↓DL.o_div, ↓DL.o_mod, DL.o_pow, ↓DL.o_p10_3, ↓DL.o_p10_4, ↓DL.o_p10_6, ↓DL.o_p10_8, ↓DL.o_p10_9, ↓DL.o_p10_12, ↓DL.o_p10_15, ↓DL.o_p10_18, ↓DL.o_p10_20, ↓DL.o_p10_25, ↓DL.o_p10_26, ↓DL.o_p10_27, ↓DL.o_p10_28, ↓DL.o_p10_29, ↓DL.o_p10_30, ↓DL.o_p10_31, ↓DL.o_p10_36, ↓DL.o_p10_38, ↓DL.o_p10_40, ↓DL.o_p10_42, ↓DL.o_p10_44, ↓DL.o_p10_46, ↓DL.o_p10_48, ↓DL.o_p10_50, ↓DL.o_p10_60, ↓DL.o_p10_64, ↓DL.o_p10_70, ↓DL.o_p10_90, ↓DL.o_p10_99, ↓DL.o_p10_100, ↓DL.o_addS, ↓DL.o_addT, ↓DL.o_catL, ↓DL.o_addL, DL.o_lt, DL.o_le, DL.o_gt, DL.o_ge, DL.o_eqI, DL.o_neI, DL.o_eqS, DL.o_neS, DL.o_is, DL.o_isn, DL.n_non, DL.n_bl, DL.n_int, DL.n_str, DL.n_lst, DL.n_tup, DL.n_ref, DL.n_obj, DL.i_non_int, DL.i_non_bool, DL.i_non_str, DL.i_non_list, DL.i_non_tuple, DL.i_bl_int, DL.i_bl_bool, DL.i_bl_str, DL.i_bl_list, DL.i_bl_tuple, DL.i_int_int, DL.i_int_bool, DL.i_int_str, DL.i_int_list, DL.i_int_tuple, DL.i_str_int, DL.i_str_bool, DL.i_str_str, DL.i_str_list, DL.i_str_tuple, DL.i_lst_int, DL.i_lst_bool, DL.i_lst_str, DL.i_lst_list, DL.i_lst_tuple, DL.i_tup_int, DL.i_tup_bool, DL.i_tup_str, DL.i_tup_list, DL.i_tup_tuple, DL.t_non, DL.t_bl, DL.t_int, DL.t_lst, DL.t_tup, ↓DL.x_lst, ↓DL.x_tup, ↓DL.x_encP0, ↓DL.x_encP1, DL.ixn1_0, DL.ixn1_m1, DL.ixn2_0, DL.ixn2_1, DL.ixn2_m1, DL.ixn3_0, DL.ixn3_1, DL.ixn3_2, DL.ixn3_m1, DL.ixn4_0, DL.ixn4_1, DL.ixn4_2, DL.ixn4_3, DL.ixn4_m1, DL.ixn5_0, DL.ixn5_1, DL.ixn5_2, DL.ixn5_3, DL.ixn5_4, DL.ixn5_m1, DL.ixn6_0, DL.ixn6_1, DL.ixn6_2, DL.ixn6_3, DL.ixn6_4, DL.ixn6_5, DL.ixn6_m1, DL.ixn7_0, DL.ixn7_1, DL.ixn7_2, DL.ixn7_3, DL.ixn7_4, DL.ixn7_5, DL.ixn7_6, DL.ixn7_m1, DL.ixn8_0, DL.ixn8_1, DL.ixn8_2, DL.ixn8_3, DL.ixn8_4, DL.ixn8_5, DL.ixn8_6, DL.ixn8_7, DL.ixn8_m1, ↓DL.x1_0, ↓DL.x1_m1, ↓DL.x2_0, ↓DL.x2_1, ↓DL.x2_m1, ↓DL.x3_0, ↓DL.x3_1, ↓DL.x3_2, ↓DL.x3_m1, ↓DL.x4_0, ↓DL.x4_1, ↓DL.x4_2, ↓DL.x4_3, ↓DL.x4_m1, ↓DL.x5_0, ↓DL.x5_1, ↓DL.x5_2, ↓DL.x5_3, ↓DL.x5_4, ↓DL.x5_m1, ↓DL.x6_0, ↓DL.x6_1, ↓DL.x6_2, ↓DL.x6_3, ↓DL.x6_4, ↓DL.x6_5, ↓DL.x6_m1, ↓DL.x7_0, ↓DL.x7_1, ↓DL.x7_2, ↓DL.x7_3, ↓DL.x7_4, ↓DL.x7_5, ↓DL.x7_6, ↓DL.x7_m1, ↓DL.x8_0, ↓DL.x8_1, ↓DL.x8_2, ↓DL.x8_3, ↓DL.x8_4, ↓DL.x8_5, ↓DL.x8_6, ↓DL.x8_7, ↓DL.x8_m1, DL.c_abs, DL.c_max2, DL.c_min2, DL.c_int, DL.c_intb, DL.c_lenS, DL.c_lenT, DL.c_lenL, DL.c_listT, DL.c_listL, DL.c_tupT, DL.c_tupL, DL.c_sum, DL.c_sum0, DL.c_all, DL.c_any, DL.c_minP, DL.c_maxP, DL.c_sortP, DL.c_zip, DL.c_enum, DL.c_range1, DL.c_range2, DL.g_lst, DL.g_tup, DL.g_str, DL.p_int, DL.sq_lst, DL.sl_lst, DL.sl_tup, DL.sl_str, DL.slL_lst, DL.om_some, List.set_cons_zero, List.set_cons_succ, DL.m_tyL, DL.m_tyS, DL.m_ty, DL.m_app, DL.m_sto, DL.m_fzL, DL.m_fzI, DL.m_fzT, DL.m_fz, DL.x_ref, DL.c_lenR, DL.c_listR, DL.c_tupR, DL.sl_ref, DL.atL_new, DL.atL_new1, DL.atL_new2, DL.atL_old, DL.set_new, DL.set_new1, DL.set_new2, DL.set_old, DL.take_app, DL.app_app, DL.cons_app, DL.nil_app, DL.len_app1, DL.len_app2, DL.len_app3, DL.len_set, DL.seq_new, DL.seq_new1, DL.seq_new2, DL.seq_old, DL.ex_some, DL.fl_non, DL.fl_int, DL.fl_bl, DL.fl_str, DL.fl_tup, DL.fl_lst, DL.fl_obj, DL.fl_nil, DL.fl_cons, DL.fl_app, DL.fl_encP, Bool.and_self, Bool.and_true, Bool.true_and, List.set_set, ↓DL.w_yes, ↓DL.w_fld, ↓DL.w_mt, ↓DL.w_mtL, ↓DL.w_mt0, ↓DL.w_mt0L, ↓DL.w_ic, DL.isO_obj, ↓DL.w_make, ↓DL.w_b2M, ↓DL.w_b2MT, DL.c_intU, DL.c_intbU, ↓DL.w_mthL, ↓DL.w_uM, ↓DL.w_inv, ↓DL.w_bin_obj, ↓DL.w_bin_int, ↓DL.w_fldS, DL.m_fld, DL.atI_new, DL.putD, ↓DL.w_repL, ↓DL.w_isiC, ↓DL.w_par3, ↓DL.wPar3_3, DL.m_count, DL.wretL_new, DL.wret_new, ↓DL.c_setSort, DL.o_addI, DL.o_inS, DL.o_ninS, ↓DL.c_str, ↓DL.c_intSw, ↓DL.m_ext, DL.slt_l, DL.slt_t, DL.slt_r, ↓DL.c_dm, ↓DL.c_split, ↓DL.c_join, ↓DL.c_rep, ↓DL.x_str, ↓DL.o_catRL, ↓DL.o_addRL, ↓DL.wret_tup, ↓DL.wret_lst, List.take_length, List.length_cons, List.length_nil, List.length_map, Int.cast_ofNat_Int, Bool.not_true, Bool.not_false, Int.reduceAdd, Int.reduceSub, Int.reduceMul, Int.reduceNeg, Int.reduceEq, Int.reduceLT, Int.reduceLE, Nat.reduceAdd, Nat.reduceSub, eq_self, not_true_eq_false, not_false_eq_true, false_implies, implies_true, true_implies, ff_Profile_own_cold, ff_Profile_own_pieces, fm_Profile_pieces, fm_Profile_accesses, fm_Profile_cold, isf_Profile_Profile, isf_Profile_0s, isf_Profile_0i, isf_Profile_0l, isf_Profile_0t, isf_Profile_0n, isf_Profile_0b, isf_Profile_0d])
section
variable {S R : Cells} {E : Xc → Cells → Prop} {Q : D → Cells → Prop} {QL : List D → Cells → Prop}
theorem pos_of {J : List MP.T} {lo : Int} (h1 : 1 ≤ lo) (h : MP.Asc lo J) : ∀ p ∈ J, 1 ≤ p.1 ∧ p.1 ≤ p.2.1 ∧ 0 ≤ p.2.2 := fun p hp => by have := h.mem p hp; omega
theorem fc {c : Int} {J : List MP.T} : fldD NMf [0] "own_cold" (prof c J) S = some (.int c) := ff_Profile_own_cold
theorem fp {c : Int} {J : List MP.T} : fldD NMf [0] "own_pieces" (prof c J) S = some (.tup (J.map encT)) := ff_Profile_own_pieces
theorem isi_prof {c : Int} {J : List MP.T} : isiCD tab_Profile (prof c J) S = some (.bl true) := rfl
theorem mulB {i j : Int} (hi : 0 ≤ i ∧ i < 10 ^ 90) (hj : 0 ≤ j ∧ j < 10 ^ 90) : okMul i j = true := okMul_of 300 300 (lt_pow hi.1 hi.2 (by decide)) (lt_pow hj.1 hj.2 (by decide)) (by decide)
end

end K12
end
section
set_option maxHeartbeats 4000000
set_option exponentiation.threshold 3000
namespace K12
open PySem PySem.Spec L2 DL
open PyProof.Rows hiding St
open Lean in
local macro_rules | `(tactic| push_cast [$ts,*]) => `(tactic| simp only [↓DL.r0, ↓DL.r1, ↓DL.r2, ↓DL.r3, ↓DL.r4, ↓DL.r5, ↓DL.r6, ↓DL.r7, ↓DL.r8, ↓DL.r9, ↓DL.r10, ↓DL.r11, ↓DL.r12, ↓DL.r13, ↓DL.r14, ↓DL.r15, ↓DL.r16, ↓DL.r17, ↓DL.r18, ↓DL.r19, ↓DL.r20, ↓DL.r21, ↓DL.r22, ↓DL.r23, ↓DL.r24, ↓DL.r25, ↓DL.r26, ↓DL.r27, ↓DL.r28, ↓DL.r29, DL.s0, DL.s1, DL.s2, DL.s3, DL.s4, DL.s5, DL.s6, DL.s7, DL.s8, DL.s9, DL.s10, DL.s11, DL.s12, DL.s13, DL.s14, DL.s15, DL.s16, DL.s17, DL.s18, DL.s19, DL.s20, DL.s21, DL.s22, DL.s23, DL.s24, DL.s25, DL.s26, DL.s27, DL.s28, DL.s29, DL.startD_cons, DL.startD_nil, DL.startD_zero, ↓DL.w_ok, ↓DL.w_some, ↓DL.w_somec, ↓DL.w_bind, ↓DL.w_opt, ↓DL.w_chg, ↓DL.w_kon, ↓DL.w_calm, ↓DL.w_b2, ↓DL.w_b2L, ↓DL.w_b1, ↓DL.wB_bl, ↓DL.w_asB, ↓DL.w_b2T, ↓DL.w_chE, ↓DL.w_chT, ↓DL.w_not, ↓DL.w_val, ↓DL.w_notE, ↓DL.w_ifE, ↓DL.w_ifL, ↓DL.w_andM, ↓DL.w_orM, ↓DL.w_andE, ↓DL.w_orE, ↓DL.w_nil, ↓DL.w_cons, ↓DL.w_tup, ↓DL.w_lst, ↓DL.w_frz, ↓DL.w_new, ↓DL.w_cel, ↓DL.w_cb, ↓DL.w_cbL, ↓DL.w_call, ↓DL.w_callL, ↓DL.w_ar0, ↓DL.w_ar1, ↓DL.w_ar2, ↓DL.w_ar3, ↓DL.w_ar4, ↓DL.w_ar5, ↓DL.w_ar6, ↓DL.w_noO, ↓DL.w_smO, ↓DL.w_sl, ↓DL.w_slL, ↓DL.w_rev, ↓DL.w_step, ↓DL.w_isi, ↓DL.w_sets, ↓DL.w_lrg, ↓DL.w_mth, ↓DL.w_mth0, ↓DL.w_itS, ↓DL.w_itR1, ↓DL.w_itR2, ↓DL.w_itR3, ↓DL.w_itZ, ↓DL.w_itN, ↓DL.w_lc, ↓DL.w_nx, ↓DL.w_rt, ↓DL.w_seq, ↓DL.w_set, ↓DL.wPar_2, ↓DL.w_par, ↓DL.w_aug, ↓DL.w_sto, ↓DL.w_exp, ↓DL.w_ret, ↓DL.w_retN, ↓DL.w_nxS, ↓DL.w_ifS, ↓DL.w_for, ↓DL.w_asg, ↓DL.w_stk, ↓DL.w_body, ↓DL.w_bodyL, ↓DL.wret_non, ↓DL.wret_bl, ↓DL.wret_int, ↓DL.wret_str, ↓DL.wif_t, ↓DL.wif_f, ↓DL.wif_d, ↓DL.wif_n, ↓DL.wif_a, ↓DL.wif_o, DL.few0, DL.few1, DL.few2, DL.few3, DL.few4, DL.few5, DL.few6, DL.few7, DL.few8, DL.few9, DL.few10, true_and, and_true, ↓DL.a_nm, ↓DL.a_tp1, ↓DL.a_tp2, ↓DL.a_tp3, ↓DL.a_tp4, ↓DL.a_tp5, ↓DL.a_tpn, ↓DL.a_tpm, ↓DL.a_encP, DL.wipe_nil, DL.wipe_cons, DL.o_add, DL.o_sub, DL.o_neg, ↓DL.o_mul, ↓DL.o_div, ↓DL.o_mod, DL.o_pow, ↓DL.o_p10_3, ↓DL.o_p10_4, ↓DL.o_p10_6, ↓DL.o_p10_8, ↓DL.o_p10_9, ↓DL.o_p10_12, ↓DL.o_p10_15, ↓DL.o_p10_18, ↓DL.o_p10_20, ↓DL.o_p10_25, ↓DL.o_p10_26, ↓DL.o_p10_27, ↓DL.o_p10_28, ↓DL.o_p10_29, ↓DL.o_p10_30, ↓DL.o_p10_31, ↓DL.o_p10_36, ↓DL.o_p10_38, ↓DL.o_p10_40, ↓DL.o_p10_42, ↓DL.o_p10_44, ↓DL.o_p10_46, ↓DL.o_p10_48, ↓DL.o_p10_50, ↓DL.o_p10_60, ↓DL.o_p10_64, ↓DL.o_p10_70, ↓DL.o_p10_90, ↓DL.o_p10_99, ↓DL.o_p10_100, ↓DL.o_addS, ↓DL.o_addT, ↓DL.o_catL, ↓DL.o_addL, DL.o_lt, DL.o_le, DL.o_gt, DL.o_ge, DL.o_eqI, DL.o_neI, DL.o_eqS, DL.o_neS, DL.o_is, DL.o_isn, DL.n_non, DL.n_bl, DL.n_int, DL.n_str, DL.n_lst, DL.n_tup, DL.n_ref, DL.n_obj, DL.i_non_int, DL.i_non_bool, DL.i_non_str, DL.i_non_list, DL.i_non_tuple, DL.i_bl_int, DL.i_bl_bool, DL.i_bl_str, DL.i_bl_list, DL.i_bl_tuple, DL.i_int_int, DL.i_int_bool, DL.i_int_str, DL.i_int_list, DL.i_int_tuple, DL.i_str_int, DL.i_str_bool, DL.i_str_str, DL.i_str_list, DL.i_str_tuple, DL.i_lst_int, DL.i_lst_bool, DL.i_lst_str, DL.i_lst_list, DL.i_lst_tuple, DL.i_tup_int, DL.i_tup_bool, DL.i_tup_str, DL.i_tup_list, DL.i_tup_tuple, DL.t_non, DL.t_bl, DL.t_int, DL.t_lst, DL.t_tup, ↓DL.x_lst, ↓DL.x_tup, ↓DL.x_encP0, ↓DL.x_encP1, DL.ixn1_0, DL.ixn1_m1, DL.ixn2_0, DL.ixn2_1, DL.ixn2_m1, DL.ixn3_0, DL.ixn3_1, DL.ixn3_2, DL.ixn3_m1, DL.ixn4_0, DL.ixn4_1, DL.ixn4_2, DL.ixn4_3, DL.ixn4_m1, DL.ixn5_0, DL.ixn5_1, DL.ixn5_2, DL.ixn5_3, DL.ixn5_4, DL.ixn5_m1, DL.ixn6_0, DL.ixn6_1, DL.ixn6_2, DL.ixn6_3, DL.ixn6_4, DL.ixn6_5, DL.ixn6_m1, DL.ixn7_0, DL.ixn7_1, DL.ixn7_2, DL.ixn7_3, DL.ixn7_4, DL.ixn7_5, DL.ixn7_6, DL.ixn7_m1, DL.ixn8_0, DL.ixn8_1, DL.ixn8_2, DL.ixn8_3, DL.ixn8_4, DL.ixn8_5, DL.ixn8_6, DL.ixn8_7, DL.ixn8_m1, ↓DL.x1_0, ↓DL.x1_m1, ↓DL.x2_0, ↓DL.x2_1, ↓DL.x2_m1, ↓DL.x3_0, ↓DL.x3_1, ↓DL.x3_2, ↓DL.x3_m1, ↓DL.x4_0, ↓DL.x4_1, ↓DL.x4_2, ↓DL.x4_3, ↓DL.x4_m1, ↓DL.x5_0, ↓DL.x5_1, ↓DL.x5_2, ↓DL.x5_3, ↓DL.x5_4, ↓DL.x5_m1, ↓DL.x6_0, ↓DL.x6_1, ↓DL.x6_2, ↓DL.x6_3, ↓DL.x6_4, ↓DL.x6_5, ↓DL.x6_m1, ↓DL.x7_0, ↓DL.x7_1, ↓DL.x7_2, ↓DL.x7_3, ↓DL.x7_4, ↓DL.x7_5, ↓DL.x7_6, ↓DL.x7_m1, ↓DL.x8_0, ↓DL.x8_1, ↓DL.x8_2, ↓DL.x8_3, ↓DL.x8_4, ↓DL.x8_5, ↓DL.x8_6, ↓DL.x8_7, ↓DL.x8_m1, DL.c_abs, DL.c_max2, DL.c_min2, DL.c_int, DL.c_intb, DL.c_lenS, DL.c_lenT, DL.c_lenL, DL.c_listT, DL.c_listL, DL.c_tupT, DL.c_tupL, DL.c_sum, DL.c_sum0, DL.c_all, DL.c_any, DL.c_minP, DL.c_maxP, DL.c_sortP, DL.c_zip, DL.c_enum, DL.c_range1, DL.c_range2, DL.g_lst, DL.g_tup, DL.g_str, DL.p_int, DL.sq_lst, DL.sl_lst, DL.sl_tup, DL.sl_str, DL.slL_lst, DL.om_some, List.set_cons_zero, List.set_cons_succ, DL.m_tyL, DL.m_tyS, DL.m_ty, DL.m_app, DL.m_sto, DL.m_fzL, DL.m_fzI, DL.m_fzT, DL.m_fz, DL.x_ref, DL.c_lenR, DL.c_listR, DL.c_tupR, DL.sl_ref, DL.atL_new, DL.atL_new1, DL.atL_new2, DL.atL_old, DL.set_new, DL.set_new1, DL.set_new2, DL.set_old, DL.take_app, DL.app_app, DL.cons_app, DL.nil_app, DL.len_app1, DL.len_app2, DL.len_app3, DL.len_set, DL.seq_new, DL.seq_new1, DL.seq_new2, DL.seq_old, DL.ex_some, DL.fl_non, DL.fl_int, DL.fl_bl, DL.fl_str, DL.fl_tup, DL.fl_lst, DL.fl_obj, DL.fl_nil, DL.fl_cons, DL.fl_app, DL.fl_encP, Bool.and_self, Bool.and_true, Bool.true_and, List.set_set, ↓DL.w_yes, ↓DL.w_fld, ↓DL.w_mt, ↓DL.w_mtL, ↓DL.w_mt0, ↓DL.w_mt0L, ↓DL.w_ic, DL.isO_obj, ↓DL.w_make, ↓DL.w_b2M, ↓DL.w_b2MT, DL.c_intU, DL.c_intbU, ↓DL.w_mthL, ↓DL.w_uM, ↓DL.w_inv, ↓DL.w_bin_obj, ↓DL.w_bin_int, ↓DL.w_fldS, DL.m_fld, DL.atI_new, DL.putD, ↓DL.w_repL, ↓DL.w_isiC, ↓DL.w_par3, ↓DL.wPar3_3, DL.m_count, DL.wretL_new, DL.wret_new, ↓DL.c_setSort, DL.o_addI, DL.o_inS, DL.o_ninS, ↓DL.c_str, ↓DL.c_intSw, ↓DL.m_ext, DL.slt_l, DL.slt_t, DL.slt_r, ↓DL.c_dm, ↓DL.c_split, ↓DL.c_join, ↓DL.c_rep, ↓DL.x_str, ↓DL.o_catRL, ↓DL.o_addRL, ↓DL.wret_tup, ↓DL.wret_lst, List.take_length, List.length_cons, List.length_nil, List.length_map, Int.cast_ofNat_Int, Bool.not_true, Bool.not_false, Int.reduceAdd, Int.reduceSub, Int.reduceMul, Int.reduceNeg, Int.reduceEq, Int.reduceLT, Int.reduceLE, Nat.reduceAdd, Nat.reduceSub, eq_self, not_true_eq_false, not_false_eq_true, false_implies, implies_true, true_implies, ff_Profile_own_cold, ff_Profile_own_pieces, fm_Profile_pieces, fm_Profile_accesses, fm_Profile_cold, isf_Profile_Profile, isf_Profile_0s, isf_Profile_0i, isf_Profile_0l, isf_Profile_0t, isf_Profile_0n, isf_Profile_0b, isf_Profile_0d, $ts,*])
open Lean in
local macro_rules | `(tactic| push_cast) => `(tactic| simp only [↓DL.r0, ↓DL.r1, ↓DL.r2, ↓DL.r3, ↓DL.r4, ↓DL.r5, ↓DL.r6, ↓DL.r7, ↓DL.r8, ↓DL.r9, ↓DL.r10, ↓DL.r11, ↓DL.r12, ↓DL.r13, ↓DL.r14, ↓DL.r15, ↓DL.r16, ↓DL.r17, ↓DL.r18, ↓DL.r19, ↓DL.r20, ↓DL.r21, ↓DL.r22, ↓DL.r23, ↓DL.r24, ↓DL.r25, ↓DL.r26, ↓DL.r27, ↓DL.r28, ↓DL.r29, DL.s0, DL.s1, DL.s2, DL.s3, DL.s4, DL.s5, DL.s6, DL.s7, DL.s8, DL.s9, DL.s10, DL.s11, DL.s12, DL.s13, DL.s14, DL.s15, DL.s16, DL.s17, DL.s18, DL.s19, DL.s20, DL.s21, DL.s22, DL.s23, DL.s24, DL.s25, DL.s26, DL.s27, DL.s28, DL.s29, DL.startD_cons, DL.startD_nil, DL.startD_zero, ↓DL.w_ok, ↓DL.w_some, ↓DL.w_somec, ↓DL.w_bind, ↓DL.w_opt, ↓DL.w_chg, ↓DL.w_kon, ↓DL.w_calm, ↓DL.w_b2, ↓DL.w_b2L, ↓DL.w_b1, ↓DL.wB_bl, ↓DL.w_asB, ↓DL.w_b2T, ↓DL.w_chE, ↓DL.w_chT, ↓DL.w_not, ↓DL.w_val, ↓DL.w_notE, ↓DL.w_ifE, ↓DL.w_ifL, ↓DL.w_andM, ↓DL.w_orM, ↓DL.w_andE, ↓DL.w_orE, ↓DL.w_nil, ↓DL.w_cons, ↓DL.w_tup, ↓DL.w_lst, ↓DL.w_frz, ↓DL.w_new, ↓DL.w_cel, ↓DL.w_cb, ↓DL.w_cbL, ↓DL.w_call, ↓DL.w_callL, ↓DL.w_ar0, ↓DL.w_ar1, ↓DL.w_ar2, ↓DL.w_ar3, ↓DL.w_ar4, ↓DL.w_ar5, ↓DL.w_ar6, ↓DL.w_noO, ↓DL.w_smO, ↓DL.w_sl, ↓DL.w_slL, ↓DL.w_rev, ↓DL.w_step, ↓DL.w_isi, ↓DL.w_sets, ↓DL.w_lrg, ↓DL.w_mth, ↓DL.w_mth0, ↓DL.w_itS, ↓DL.w_itR1, ↓DL.w_itR2, ↓DL.w_itR3, ↓DL.w_itZ, ↓DL.w_itN, ↓DL.w_lc, ↓DL.w_nx, ↓DL.w_rt, ↓DL.w_seq, ↓DL.w_set, ↓DL.wPar_2, ↓DL.w_par, ↓DL.w_aug, ↓DL.w_sto, ↓DL.w_exp, ↓DL.w_ret, ↓DL.w_retN, ↓DL.w_nxS, ↓DL.w_ifS, ↓DL.w_for, ↓DL.w_asg, ↓DL.w_stk, ↓DL.w_body, ↓DL.w_bodyL, ↓DL.wret_non, ↓DL.wret_bl, ↓DL.wret_int, ↓DL.wret_str, ↓DL.wif_t, ↓DL.wif_f, ↓DL.wif_d, ↓DL.wif_n, ↓DL.wif_a, ↓DL.wif_o, DL.few0, DL.few1, DL.few2, DL.few3, DL.few4, DL.few5, DL.few6, DL.few7, DL.few8, DL.few9, DL.few10, true_and, and_true, ↓DL.a_nm, ↓DL.a_tp1, ↓DL.a_tp2, ↓DL.a_tp3, ↓DL.a_tp4, ↓DL.a_tp5, ↓DL.a_tpn, ↓DL.a_tpm, ↓DL.a_encP, DL.wipe_nil, DL.wipe_cons, DL.o_add, DL.o_sub, DL.o_neg, ↓DL.o_mul, ↓DL.o_div, ↓DL.o_mod, DL.o_pow, ↓DL.o_p10_3, ↓DL.o_p10_4, ↓DL.o_p10_6, ↓DL.o_p10_8, ↓DL.o_p10_9, ↓DL.o_p10_12, ↓DL.o_p10_15, ↓DL.o_p10_18, ↓DL.o_p10_20, ↓DL.o_p10_25, ↓DL.o_p10_26, ↓DL.o_p10_27, ↓DL.o_p10_28, ↓DL.o_p10_29, ↓DL.o_p10_30, ↓DL.o_p10_31, ↓DL.o_p10_36, ↓DL.o_p10_38, ↓DL.o_p10_40, ↓DL.o_p10_42, ↓DL.o_p10_44, ↓DL.o_p10_46, ↓DL.o_p10_48, ↓DL.o_p10_50, ↓DL.o_p10_60, ↓DL.o_p10_64, ↓DL.o_p10_70, ↓DL.o_p10_90, ↓DL.o_p10_99, ↓DL.o_p10_100, ↓DL.o_addS, ↓DL.o_addT, ↓DL.o_catL, ↓DL.o_addL, DL.o_lt, DL.o_le, DL.o_gt, DL.o_ge, DL.o_eqI, DL.o_neI, DL.o_eqS, DL.o_neS, DL.o_is, DL.o_isn, DL.n_non, DL.n_bl, DL.n_int, DL.n_str, DL.n_lst, DL.n_tup, DL.n_ref, DL.n_obj, DL.i_non_int, DL.i_non_bool, DL.i_non_str, DL.i_non_list, DL.i_non_tuple, DL.i_bl_int, DL.i_bl_bool, DL.i_bl_str, DL.i_bl_list, DL.i_bl_tuple, DL.i_int_int, DL.i_int_bool, DL.i_int_str, DL.i_int_list, DL.i_int_tuple, DL.i_str_int, DL.i_str_bool, DL.i_str_str, DL.i_str_list, DL.i_str_tuple, DL.i_lst_int, DL.i_lst_bool, DL.i_lst_str, DL.i_lst_list, DL.i_lst_tuple, DL.i_tup_int, DL.i_tup_bool, DL.i_tup_str, DL.i_tup_list, DL.i_tup_tuple, DL.t_non, DL.t_bl, DL.t_int, DL.t_lst, DL.t_tup, ↓DL.x_lst, ↓DL.x_tup, ↓DL.x_encP0, ↓DL.x_encP1, DL.ixn1_0, DL.ixn1_m1, DL.ixn2_0, DL.ixn2_1, DL.ixn2_m1, DL.ixn3_0, DL.ixn3_1, DL.ixn3_2, DL.ixn3_m1, DL.ixn4_0, DL.ixn4_1, DL.ixn4_2, DL.ixn4_3, DL.ixn4_m1, DL.ixn5_0, DL.ixn5_1, DL.ixn5_2, DL.ixn5_3, DL.ixn5_4, DL.ixn5_m1, DL.ixn6_0, DL.ixn6_1, DL.ixn6_2, DL.ixn6_3, DL.ixn6_4, DL.ixn6_5, DL.ixn6_m1, DL.ixn7_0, DL.ixn7_1, DL.ixn7_2, DL.ixn7_3, DL.ixn7_4, DL.ixn7_5, DL.ixn7_6, DL.ixn7_m1, DL.ixn8_0, DL.ixn8_1, DL.ixn8_2, DL.ixn8_3, DL.ixn8_4, DL.ixn8_5, DL.ixn8_6, DL.ixn8_7, DL.ixn8_m1, ↓DL.x1_0, ↓DL.x1_m1, ↓DL.x2_0, ↓DL.x2_1, ↓DL.x2_m1, ↓DL.x3_0, ↓DL.x3_1, ↓DL.x3_2, ↓DL.x3_m1, ↓DL.x4_0, ↓DL.x4_1, ↓DL.x4_2, ↓DL.x4_3, ↓DL.x4_m1, ↓DL.x5_0, ↓DL.x5_1, ↓DL.x5_2, ↓DL.x5_3, ↓DL.x5_4, ↓DL.x5_m1, ↓DL.x6_0, ↓DL.x6_1, ↓DL.x6_2, ↓DL.x6_3, ↓DL.x6_4, ↓DL.x6_5, ↓DL.x6_m1, ↓DL.x7_0, ↓DL.x7_1, ↓DL.x7_2, ↓DL.x7_3, ↓DL.x7_4, ↓DL.x7_5, ↓DL.x7_6, ↓DL.x7_m1, ↓DL.x8_0, ↓DL.x8_1, ↓DL.x8_2, ↓DL.x8_3, ↓DL.x8_4, ↓DL.x8_5, ↓DL.x8_6, ↓DL.x8_7, ↓DL.x8_m1, DL.c_abs, DL.c_max2, DL.c_min2, DL.c_int, DL.c_intb, DL.c_lenS, DL.c_lenT, DL.c_lenL, DL.c_listT, DL.c_listL, DL.c_tupT, DL.c_tupL, DL.c_sum, DL.c_sum0, DL.c_all, DL.c_any, DL.c_minP, DL.c_maxP, DL.c_sortP, DL.c_zip, DL.c_enum, DL.c_range1, DL.c_range2, DL.g_lst, DL.g_tup, DL.g_str, DL.p_int, DL.sq_lst, DL.sl_lst, DL.sl_tup, DL.sl_str, DL.slL_lst, DL.om_some, List.set_cons_zero, List.set_cons_succ, DL.m_tyL, DL.m_tyS, DL.m_ty, DL.m_app, DL.m_sto, DL.m_fzL, DL.m_fzI, DL.m_fzT, DL.m_fz, DL.x_ref, DL.c_lenR, DL.c_listR, DL.c_tupR, DL.sl_ref, DL.atL_new, DL.atL_new1, DL.atL_new2, DL.atL_old, DL.set_new, DL.set_new1, DL.set_new2, DL.set_old, DL.take_app, DL.app_app, DL.cons_app, DL.nil_app, DL.len_app1, DL.len_app2, DL.len_app3, DL.len_set, DL.seq_new, DL.seq_new1, DL.seq_new2, DL.seq_old, DL.ex_some, DL.fl_non, DL.fl_int, DL.fl_bl, DL.fl_str, DL.fl_tup, DL.fl_lst, DL.fl_obj, DL.fl_nil, DL.fl_cons, DL.fl_app, DL.fl_encP, Bool.and_self, Bool.and_true, Bool.true_and, List.set_set, ↓DL.w_yes, ↓DL.w_fld, ↓DL.w_mt, ↓DL.w_mtL, ↓DL.w_mt0, ↓DL.w_mt0L, ↓DL.w_ic, DL.isO_obj, ↓DL.w_make, ↓DL.w_b2M, ↓DL.w_b2MT, DL.c_intU, DL.c_intbU, ↓DL.w_mthL, ↓DL.w_uM, ↓DL.w_inv, ↓DL.w_bin_obj, ↓DL.w_bin_int, ↓DL.w_fldS, DL.m_fld, DL.atI_new, DL.putD, ↓DL.w_repL, ↓DL.w_isiC, ↓DL.w_par3, ↓DL.wPar3_3, DL.m_count, DL.wretL_new, DL.wret_new, ↓DL.c_setSort, DL.o_addI, DL.o_inS, DL.o_ninS, ↓DL.c_str, ↓DL.c_intSw, ↓DL.m_ext, DL.slt_l, DL.slt_t, DL.slt_r, ↓DL.c_dm, ↓DL.c_split, ↓DL.c_join, ↓DL.c_rep, ↓DL.x_str, ↓DL.o_catRL, ↓DL.o_addRL, ↓DL.wret_tup, ↓DL.wret_lst, List.take_length, List.length_cons, List.length_nil, List.length_map, Int.cast_ofNat_Int, Bool.not_true, Bool.not_false, Int.reduceAdd, Int.reduceSub, Int.reduceMul, Int.reduceNeg, Int.reduceEq, Int.reduceLT, Int.reduceLE, Nat.reduceAdd, Nat.reduceSub, eq_self, not_true_eq_false, not_false_eq_true, false_implies, implies_true, true_implies, ff_Profile_own_cold, ff_Profile_own_pieces, fm_Profile_pieces, fm_Profile_accesses, fm_Profile_cold, isf_Profile_Profile, isf_Profile_0s, isf_Profile_0i, isf_Profile_0l, isf_Profile_0t, isf_Profile_0n, isf_Profile_0b, isf_Profile_0d])
section
variable {S R : Cells} {E : Xc → Cells → Prop} {Q : D → Cells → Prop} {QL : List D → Cells → Prop}
theorem gd_pieces {R : List MP.T} (h : ∀ p ∈ R, 0 ≤ p.1 ∧ p.1 < 10 ^ 90 ∧ 0 ≤ p.2.1 ∧ p.2.1 < 10 ^ 90 ∧ 0 ≤ p.2.2 ∧ p.2.2 < 10 ^ 90) : Gd 2 (.lst (R.map encT)) :=
  .lst (Gd.map fun p hp => .tup fun d hd => by
    obtain ⟨a1, a2, a3, a4, a5, a6⟩ := h p hp
    simp only [List.mem_cons, List.not_mem_nil, or_false] at hd
    rcases hd with e | e | e <;> subst e
    · exact .int (logOk_of (lt_pow (b := 300) a1 a2 (by decide)))
    · exact .int (logOk_of (lt_pow (b := 300) a3 a4 (by decide)))
    · exact .int (logOk_of (lt_pow (b := 300) a5 a6 (by decide))))
theorem vw_ref {m : Nat} {b : Bool} {l : List D} (h : S[m]? = some ⟨b, .lst l⟩) (hf : flatL l = true) : vw S (.ref m) = vw S (.lst l) := by
  unfold vw
  rw [resv_flat _ _ (.lst l) (by rw [flat_lst]; exact hf)]
  unfold resv
  rw [if_neg (by omega), h]
theorem dNe_nil {l : List D} (hg : Gd 2 (.lst l)) : dNe (.lst l) (.lst []) S = some (.bl (!l.isEmpty)) := by
  cases l with
  | nil => exact dNe_same hg (by decide)
  | cons d l =>
    obtain ⟨p, e, g⟩ := gd_vw (S := S) hg
    have e' : vw S (.lst []) = some (.list []) := rfl
    have k := eqP_of e e' (g.shaped (by decide)) (by decide +kernel)
    show (eqP (.lst (d :: l)) (.lst []) S).map (fun b => D.bl (!b)) = _
    rw [k]
    have e2 : vw S (.lst (d :: l)) = (match (match toPy d, toPyL l with
      | some v, some vs => some (v :: vs)
      | _, _ => none) with
      | some m => some (PyData.list m)
      | none => none) := by
      unfold vw
      rw [resv_flat _ _ _ (gd_flat hg)]
      rfl
    rw [e2] at e
    cases h1 : toPy d with
    | none => rw [h1] at e; cases e
    | some v =>
      cases h2 : toPyL l with
      | none => rw [h1, h2] at e; cases e
      | some vs =>
        rw [h1, h2] at e
        cases e
        rfl
theorem dNe_ref {m : Nat} {b : Bool} {l : List D} (h : S[m]? = some ⟨b, .lst l⟩) (hg : Gd 2 (.lst l)) : dNe (.ref m) (.lst []) S = some (.bl (!l.isEmpty)) := by
  rw [← dNe_nil (S := S) hg]
  show (eqP (.ref m) (.lst []) S).map (fun b => D.bl (!b)) = (eqP (.lst l) (.lst []) S).map (fun b => D.bl (!b))
  unfold eqP
  rw [vw_ref h (by have := gd_flat hg; rwa [flat_lst] at this)]
end

end K12
end
section
set_option maxHeartbeats 4000000
set_option exponentiation.threshold 3000
namespace K12
open PySem PySem.Spec L2 DL
open PyProof.Rows hiding St
open Lean in
local macro_rules | `(tactic| push_cast [$ts,*]) => `(tactic| simp only [↓DL.r0, ↓DL.r1, ↓DL.r2, ↓DL.r3, ↓DL.r4, ↓DL.r5, ↓DL.r6, ↓DL.r7, ↓DL.r8, ↓DL.r9, ↓DL.r10, ↓DL.r11, ↓DL.r12, ↓DL.r13, ↓DL.r14, ↓DL.r15, ↓DL.r16, ↓DL.r17, ↓DL.r18, ↓DL.r19, ↓DL.r20, ↓DL.r21, ↓DL.r22, ↓DL.r23, ↓DL.r24, ↓DL.r25, ↓DL.r26, ↓DL.r27, ↓DL.r28, ↓DL.r29, DL.s0, DL.s1, DL.s2, DL.s3, DL.s4, DL.s5, DL.s6, DL.s7, DL.s8, DL.s9, DL.s10, DL.s11, DL.s12, DL.s13, DL.s14, DL.s15, DL.s16, DL.s17, DL.s18, DL.s19, DL.s20, DL.s21, DL.s22, DL.s23, DL.s24, DL.s25, DL.s26, DL.s27, DL.s28, DL.s29, DL.startD_cons, DL.startD_nil, DL.startD_zero, ↓DL.w_ok, ↓DL.w_some, ↓DL.w_somec, ↓DL.w_bind, ↓DL.w_opt, ↓DL.w_chg, ↓DL.w_kon, ↓DL.w_calm, ↓DL.w_b2, ↓DL.w_b2L, ↓DL.w_b1, ↓DL.wB_bl, ↓DL.w_asB, ↓DL.w_b2T, ↓DL.w_chE, ↓DL.w_chT, ↓DL.w_not, ↓DL.w_val, ↓DL.w_notE, ↓DL.w_ifE, ↓DL.w_ifL, ↓DL.w_andM, ↓DL.w_orM, ↓DL.w_andE, ↓DL.w_orE, ↓DL.w_nil, ↓DL.w_cons, ↓DL.w_tup, ↓DL.w_lst, ↓DL.w_frz, ↓DL.w_new, ↓DL.w_cel, ↓DL.w_cb, ↓DL.w_cbL, ↓DL.w_call, ↓DL.w_callL, ↓DL.w_ar0, ↓DL.w_ar1, ↓DL.w_ar2, ↓DL.w_ar3, ↓DL.w_ar4, ↓DL.w_ar5, ↓DL.w_ar6, ↓DL.w_noO, ↓DL.w_smO, ↓DL.w_sl, ↓DL.w_slL, ↓DL.w_rev, ↓DL.w_step, ↓DL.w_isi, ↓DL.w_sets, ↓DL.w_lrg, ↓DL.w_mth, ↓DL.w_mth0, ↓DL.w_itS, ↓DL.w_itR1, ↓DL.w_itR2, ↓DL.w_itR3, ↓DL.w_itZ, ↓DL.w_itN, ↓DL.w_lc, ↓DL.w_nx, ↓DL.w_rt, ↓DL.w_seq, ↓DL.w_set, ↓DL.wPar_2, ↓DL.w_par, ↓DL.w_aug, ↓DL.w_sto, ↓DL.w_exp, ↓DL.w_ret, ↓DL.w_retN, ↓DL.w_nxS, ↓DL.w_ifS, ↓DL.w_for, ↓DL.w_asg, ↓DL.w_stk, ↓DL.w_body, ↓DL.w_bodyL, ↓DL.wret_non, ↓DL.wret_bl, ↓DL.wret_int, ↓DL.wret_str, ↓DL.wif_t, ↓DL.wif_f, ↓DL.wif_d, ↓DL.wif_n, ↓DL.wif_a, ↓DL.wif_o, DL.few0, DL.few1, DL.few2, DL.few3, DL.few4, DL.few5, DL.few6, DL.few7, DL.few8, DL.few9, DL.few10, true_and, and_true, ↓DL.a_nm, ↓DL.a_tp1, ↓DL.a_tp2, ↓DL.a_tp3, ↓DL.a_tp4, ↓DL.a_tp5, ↓DL.a_tpn, ↓DL.a_tpm, ↓DL.a_encP, DL.wipe_nil, DL.wipe_cons, DL.o_add, DL.o_sub, DL.o_neg, ↓DL.o_mul, ↓DL.o_div, ↓DL.o_mod, DL.o_pow, ↓DL.o_p10_3, ↓DL.o_p10_4, ↓DL.o_p10_6, ↓DL.o_p10_8, ↓DL.o_p10_9, ↓DL.o_p10_12, ↓DL.o_p10_15, ↓DL.o_p10_18, ↓DL.o_p10_20, ↓DL.o_p10_25, ↓DL.o_p10_26, ↓DL.o_p10_27, ↓DL.o_p10_28, ↓DL.o_p10_29, ↓DL.o_p10_30, ↓DL.o_p10_31, ↓DL.o_p10_36, ↓DL.o_p10_38, ↓DL.o_p10_40, ↓DL.o_p10_42, ↓DL.o_p10_44, ↓DL.o_p10_46, ↓DL.o_p10_48, ↓DL.o_p10_50, ↓DL.o_p10_60, ↓DL.o_p10_64, ↓DL.o_p10_70, ↓DL.o_p10_90, ↓DL.o_p10_99, ↓DL.o_p10_100, ↓DL.o_addS, ↓DL.o_addT, ↓DL.o_catL, ↓DL.o_addL, DL.o_lt, DL.o_le, DL.o_gt, DL.o_ge, DL.o_eqI, DL.o_neI, DL.o_eqS, DL.o_neS, DL.o_is, DL.o_isn, DL.n_non, DL.n_bl, DL.n_int, DL.n_str, DL.n_lst, DL.n_tup, DL.n_ref, DL.n_obj, DL.i_non_int, DL.i_non_bool, DL.i_non_str, DL.i_non_list, DL.i_non_tuple, DL.i_bl_int, DL.i_bl_bool, DL.i_bl_str, DL.i_bl_list, DL.i_bl_tuple, DL.i_int_int, DL.i_int_bool, DL.i_int_str, DL.i_int_list, DL.i_int_tuple, DL.i_str_int, DL.i_str_bool, DL.i_str_str, DL.i_str_list, DL.i_str_tuple, DL.i_lst_int, DL.i_lst_bool, DL.i_lst_str, DL.i_lst_list, DL.i_lst_tuple, DL.i_tup_int, DL.i_tup_bool, DL.i_tup_str, DL.i_tup_list, DL.i_tup_tuple, DL.t_non, DL.t_bl, DL.t_int, DL.t_lst, DL.t_tup, ↓DL.x_lst, ↓DL.x_tup, ↓DL.x_encP0, ↓DL.x_encP1, DL.ixn1_0, DL.ixn1_m1, DL.ixn2_0, DL.ixn2_1, DL.ixn2_m1, DL.ixn3_0, DL.ixn3_1, DL.ixn3_2, DL.ixn3_m1, DL.ixn4_0, DL.ixn4_1, DL.ixn4_2, DL.ixn4_3, DL.ixn4_m1, DL.ixn5_0, DL.ixn5_1, DL.ixn5_2, DL.ixn5_3, DL.ixn5_4, DL.ixn5_m1, DL.ixn6_0, DL.ixn6_1, DL.ixn6_2, DL.ixn6_3, DL.ixn6_4, DL.ixn6_5, DL.ixn6_m1, DL.ixn7_0, DL.ixn7_1, DL.ixn7_2, DL.ixn7_3, DL.ixn7_4, DL.ixn7_5, DL.ixn7_6, DL.ixn7_m1, DL.ixn8_0, DL.ixn8_1, DL.ixn8_2, DL.ixn8_3, DL.ixn8_4, DL.ixn8_5, DL.ixn8_6, DL.ixn8_7, DL.ixn8_m1, ↓DL.x1_0, ↓DL.x1_m1, ↓DL.x2_0, ↓DL.x2_1, ↓DL.x2_m1, ↓DL.x3_0, ↓DL.x3_1, ↓DL.x3_2, ↓DL.x3_m1, ↓DL.x4_0, ↓DL.x4_1, ↓DL.x4_2, ↓DL.x4_3, ↓DL.x4_m1, ↓DL.x5_0, ↓DL.x5_1, ↓DL.x5_2, ↓DL.x5_3, ↓DL.x5_4, ↓DL.x5_m1, ↓DL.x6_0, ↓DL.x6_1, ↓DL.x6_2, ↓DL.x6_3, ↓DL.x6_4, ↓DL.x6_5, ↓DL.x6_m1, ↓DL.x7_0, ↓DL.x7_1, ↓DL.x7_2, ↓DL.x7_3, ↓DL.x7_4, ↓DL.x7_5, ↓DL.x7_6, ↓DL.x7_m1, ↓DL.x8_0, ↓DL.x8_1, ↓DL.x8_2, ↓DL.x8_3, ↓DL.x8_4, ↓DL.x8_5, ↓DL.x8_6, ↓DL.x8_7, ↓DL.x8_m1, DL.c_abs, DL.c_max2, DL.c_min2, DL.c_int, DL.c_intb, DL.c_lenS, DL.c_lenT, DL.c_lenL, DL.c_listT, DL.c_listL, DL.c_tupT, DL.c_tupL, DL.c_sum, DL.c_sum0, DL.c_all, DL.c_any, DL.c_minP, DL.c_maxP, DL.c_sortP, DL.c_zip, DL.c_enum, DL.c_range1, DL.c_range2, DL.g_lst, DL.g_tup, DL.g_str, DL.p_int, DL.sq_lst, DL.sl_lst, DL.sl_tup, DL.sl_str, DL.slL_lst, DL.om_some, List.set_cons_zero, List.set_cons_succ, DL.m_tyL, DL.m_tyS, DL.m_ty, DL.m_app, DL.m_sto, DL.m_fzL, DL.m_fzI, DL.m_fzT, DL.m_fz, DL.x_ref, DL.c_lenR, DL.c_listR, DL.c_tupR, DL.sl_ref, DL.atL_new, DL.atL_new1, DL.atL_new2, DL.atL_old, DL.set_new, DL.set_new1, DL.set_new2, DL.set_old, DL.take_app, DL.app_app, DL.cons_app, DL.nil_app, DL.len_app1, DL.len_app2, DL.len_app3, DL.len_set, DL.seq_new, DL.seq_new1, DL.seq_new2, DL.seq_old, DL.ex_some, DL.fl_non, DL.fl_int, DL.fl_bl, DL.fl_str, DL.fl_tup, DL.fl_lst, DL.fl_obj, DL.fl_nil, DL.fl_cons, DL.fl_app, DL.fl_encP, Bool.and_self, Bool.and_true, Bool.true_and, List.set_set, ↓DL.w_yes, ↓DL.w_fld, ↓DL.w_mt, ↓DL.w_mtL, ↓DL.w_mt0, ↓DL.w_mt0L, ↓DL.w_ic, DL.isO_obj, ↓DL.w_make, ↓DL.w_b2M, ↓DL.w_b2MT, DL.c_intU, DL.c_intbU, ↓DL.w_mthL, ↓DL.w_uM, ↓DL.w_inv, ↓DL.w_bin_obj, ↓DL.w_bin_int, ↓DL.w_fldS, DL.m_fld, DL.atI_new, DL.putD, ↓DL.w_repL, ↓DL.w_isiC, ↓DL.w_par3, ↓DL.wPar3_3, DL.m_count, DL.wretL_new, DL.wret_new, ↓DL.c_setSort, DL.o_addI, DL.o_inS, DL.o_ninS, ↓DL.c_str, ↓DL.c_intSw, ↓DL.m_ext, DL.slt_l, DL.slt_t, DL.slt_r, ↓DL.c_dm, ↓DL.c_split, ↓DL.c_join, ↓DL.c_rep, ↓DL.x_str, ↓DL.o_catRL, ↓DL.o_addRL, ↓DL.wret_tup, ↓DL.wret_lst, List.take_length, List.length_cons, List.length_nil, List.length_map, Int.cast_ofNat_Int, Bool.not_true, Bool.not_false, Int.reduceAdd, Int.reduceSub, Int.reduceMul, Int.reduceNeg, Int.reduceEq, Int.reduceLT, Int.reduceLE, Nat.reduceAdd, Nat.reduceSub, eq_self, not_true_eq_false, not_false_eq_true, false_implies, implies_true, true_implies, ff_Profile_own_cold, ff_Profile_own_pieces, fm_Profile_pieces, fm_Profile_accesses, fm_Profile_cold, isf_Profile_Profile, isf_Profile_0s, isf_Profile_0i, isf_Profile_0l, isf_Profile_0t, isf_Profile_0n, isf_Profile_0b, isf_Profile_0d, $ts,*])
open Lean in
local macro_rules | `(tactic| push_cast) => `(tactic| simp only [↓DL.r0, ↓DL.r1, ↓DL.r2, ↓DL.r3, ↓DL.r4, ↓DL.r5, ↓DL.r6, ↓DL.r7, ↓DL.r8, ↓DL.r9, ↓DL.r10, ↓DL.r11, ↓DL.r12, ↓DL.r13, ↓DL.r14, ↓DL.r15, ↓DL.r16, ↓DL.r17, ↓DL.r18, ↓DL.r19, ↓DL.r20, ↓DL.r21, ↓DL.r22, ↓DL.r23, ↓DL.r24, ↓DL.r25, ↓DL.r26, ↓DL.r27, ↓DL.r28, ↓DL.r29, DL.s0, DL.s1, DL.s2, DL.s3, DL.s4, DL.s5, DL.s6, DL.s7, DL.s8, DL.s9, DL.s10, DL.s11, DL.s12, DL.s13, DL.s14, DL.s15, DL.s16, DL.s17, DL.s18, DL.s19, DL.s20, DL.s21, DL.s22, DL.s23, DL.s24, DL.s25, DL.s26, DL.s27, DL.s28, DL.s29, DL.startD_cons, DL.startD_nil, DL.startD_zero, ↓DL.w_ok, ↓DL.w_some, ↓DL.w_somec, ↓DL.w_bind, ↓DL.w_opt, ↓DL.w_chg, ↓DL.w_kon, ↓DL.w_calm, ↓DL.w_b2, ↓DL.w_b2L, ↓DL.w_b1, ↓DL.wB_bl, ↓DL.w_asB, ↓DL.w_b2T, ↓DL.w_chE, ↓DL.w_chT, ↓DL.w_not, ↓DL.w_val, ↓DL.w_notE, ↓DL.w_ifE, ↓DL.w_ifL, ↓DL.w_andM, ↓DL.w_orM, ↓DL.w_andE, ↓DL.w_orE, ↓DL.w_nil, ↓DL.w_cons, ↓DL.w_tup, ↓DL.w_lst, ↓DL.w_frz, ↓DL.w_new, ↓DL.w_cel, ↓DL.w_cb, ↓DL.w_cbL, ↓DL.w_call, ↓DL.w_callL, ↓DL.w_ar0, ↓DL.w_ar1, ↓DL.w_ar2, ↓DL.w_ar3, ↓DL.w_ar4, ↓DL.w_ar5, ↓DL.w_ar6, ↓DL.w_noO, ↓DL.w_smO, ↓DL.w_sl, ↓DL.w_slL, ↓DL.w_rev, ↓DL.w_step, ↓DL.w_isi, ↓DL.w_sets, ↓DL.w_lrg, ↓DL.w_mth, ↓DL.w_mth0, ↓DL.w_itS, ↓DL.w_itR1, ↓DL.w_itR2, ↓DL.w_itR3, ↓DL.w_itZ, ↓DL.w_itN, ↓DL.w_lc, ↓DL.w_nx, ↓DL.w_rt, ↓DL.w_seq, ↓DL.w_set, ↓DL.wPar_2, ↓DL.w_par, ↓DL.w_aug, ↓DL.w_sto, ↓DL.w_exp, ↓DL.w_ret, ↓DL.w_retN, ↓DL.w_nxS, ↓DL.w_ifS, ↓DL.w_for, ↓DL.w_asg, ↓DL.w_stk, ↓DL.w_body, ↓DL.w_bodyL, ↓DL.wret_non, ↓DL.wret_bl, ↓DL.wret_int, ↓DL.wret_str, ↓DL.wif_t, ↓DL.wif_f, ↓DL.wif_d, ↓DL.wif_n, ↓DL.wif_a, ↓DL.wif_o, DL.few0, DL.few1, DL.few2, DL.few3, DL.few4, DL.few5, DL.few6, DL.few7, DL.few8, DL.few9, DL.few10, true_and, and_true, ↓DL.a_nm, ↓DL.a_tp1, ↓DL.a_tp2, ↓DL.a_tp3, ↓DL.a_tp4, ↓DL.a_tp5, ↓DL.a_tpn, ↓DL.a_tpm, ↓DL.a_encP, DL.wipe_nil, DL.wipe_cons, DL.o_add, DL.o_sub, DL.o_neg, ↓DL.o_mul, ↓DL.o_div, ↓DL.o_mod, DL.o_pow, ↓DL.o_p10_3, ↓DL.o_p10_4, ↓DL.o_p10_6, ↓DL.o_p10_8, ↓DL.o_p10_9, ↓DL.o_p10_12, ↓DL.o_p10_15, ↓DL.o_p10_18, ↓DL.o_p10_20, ↓DL.o_p10_25, ↓DL.o_p10_26, ↓DL.o_p10_27, ↓DL.o_p10_28, ↓DL.o_p10_29, ↓DL.o_p10_30, ↓DL.o_p10_31, ↓DL.o_p10_36, ↓DL.o_p10_38, ↓DL.o_p10_40, ↓DL.o_p10_42, ↓DL.o_p10_44, ↓DL.o_p10_46, ↓DL.o_p10_48, ↓DL.o_p10_50, ↓DL.o_p10_60, ↓DL.o_p10_64, ↓DL.o_p10_70, ↓DL.o_p10_90, ↓DL.o_p10_99, ↓DL.o_p10_100, ↓DL.o_addS, ↓DL.o_addT, ↓DL.o_catL, ↓DL.o_addL, DL.o_lt, DL.o_le, DL.o_gt, DL.o_ge, DL.o_eqI, DL.o_neI, DL.o_eqS, DL.o_neS, DL.o_is, DL.o_isn, DL.n_non, DL.n_bl, DL.n_int, DL.n_str, DL.n_lst, DL.n_tup, DL.n_ref, DL.n_obj, DL.i_non_int, DL.i_non_bool, DL.i_non_str, DL.i_non_list, DL.i_non_tuple, DL.i_bl_int, DL.i_bl_bool, DL.i_bl_str, DL.i_bl_list, DL.i_bl_tuple, DL.i_int_int, DL.i_int_bool, DL.i_int_str, DL.i_int_list, DL.i_int_tuple, DL.i_str_int, DL.i_str_bool, DL.i_str_str, DL.i_str_list, DL.i_str_tuple, DL.i_lst_int, DL.i_lst_bool, DL.i_lst_str, DL.i_lst_list, DL.i_lst_tuple, DL.i_tup_int, DL.i_tup_bool, DL.i_tup_str, DL.i_tup_list, DL.i_tup_tuple, DL.t_non, DL.t_bl, DL.t_int, DL.t_lst, DL.t_tup, ↓DL.x_lst, ↓DL.x_tup, ↓DL.x_encP0, ↓DL.x_encP1, DL.ixn1_0, DL.ixn1_m1, DL.ixn2_0, DL.ixn2_1, DL.ixn2_m1, DL.ixn3_0, DL.ixn3_1, DL.ixn3_2, DL.ixn3_m1, DL.ixn4_0, DL.ixn4_1, DL.ixn4_2, DL.ixn4_3, DL.ixn4_m1, DL.ixn5_0, DL.ixn5_1, DL.ixn5_2, DL.ixn5_3, DL.ixn5_4, DL.ixn5_m1, DL.ixn6_0, DL.ixn6_1, DL.ixn6_2, DL.ixn6_3, DL.ixn6_4, DL.ixn6_5, DL.ixn6_m1, DL.ixn7_0, DL.ixn7_1, DL.ixn7_2, DL.ixn7_3, DL.ixn7_4, DL.ixn7_5, DL.ixn7_6, DL.ixn7_m1, DL.ixn8_0, DL.ixn8_1, DL.ixn8_2, DL.ixn8_3, DL.ixn8_4, DL.ixn8_5, DL.ixn8_6, DL.ixn8_7, DL.ixn8_m1, ↓DL.x1_0, ↓DL.x1_m1, ↓DL.x2_0, ↓DL.x2_1, ↓DL.x2_m1, ↓DL.x3_0, ↓DL.x3_1, ↓DL.x3_2, ↓DL.x3_m1, ↓DL.x4_0, ↓DL.x4_1, ↓DL.x4_2, ↓DL.x4_3, ↓DL.x4_m1, ↓DL.x5_0, ↓DL.x5_1, ↓DL.x5_2, ↓DL.x5_3, ↓DL.x5_4, ↓DL.x5_m1, ↓DL.x6_0, ↓DL.x6_1, ↓DL.x6_2, ↓DL.x6_3, ↓DL.x6_4, ↓DL.x6_5, ↓DL.x6_m1, ↓DL.x7_0, ↓DL.x7_1, ↓DL.x7_2, ↓DL.x7_3, ↓DL.x7_4, ↓DL.x7_5, ↓DL.x7_6, ↓DL.x7_m1, ↓DL.x8_0, ↓DL.x8_1, ↓DL.x8_2, ↓DL.x8_3, ↓DL.x8_4, ↓DL.x8_5, ↓DL.x8_6, ↓DL.x8_7, ↓DL.x8_m1, DL.c_abs, DL.c_max2, DL.c_min2, DL.c_int, DL.c_intb, DL.c_lenS, DL.c_lenT, DL.c_lenL, DL.c_listT, DL.c_listL, DL.c_tupT, DL.c_tupL, DL.c_sum, DL.c_sum0, DL.c_all, DL.c_any, DL.c_minP, DL.c_maxP, DL.c_sortP, DL.c_zip, DL.c_enum, DL.c_range1, DL.c_range2, DL.g_lst, DL.g_tup, DL.g_str, DL.p_int, DL.sq_lst, DL.sl_lst, DL.sl_tup, DL.sl_str, DL.slL_lst, DL.om_some, List.set_cons_zero, List.set_cons_succ, DL.m_tyL, DL.m_tyS, DL.m_ty, DL.m_app, DL.m_sto, DL.m_fzL, DL.m_fzI, DL.m_fzT, DL.m_fz, DL.x_ref, DL.c_lenR, DL.c_listR, DL.c_tupR, DL.sl_ref, DL.atL_new, DL.atL_new1, DL.atL_new2, DL.atL_old, DL.set_new, DL.set_new1, DL.set_new2, DL.set_old, DL.take_app, DL.app_app, DL.cons_app, DL.nil_app, DL.len_app1, DL.len_app2, DL.len_app3, DL.len_set, DL.seq_new, DL.seq_new1, DL.seq_new2, DL.seq_old, DL.ex_some, DL.fl_non, DL.fl_int, DL.fl_bl, DL.fl_str, DL.fl_tup, DL.fl_lst, DL.fl_obj, DL.fl_nil, DL.fl_cons, DL.fl_app, DL.fl_encP, Bool.and_self, Bool.and_true, Bool.true_and, List.set_set, ↓DL.w_yes, ↓DL.w_fld, ↓DL.w_mt, ↓DL.w_mtL, ↓DL.w_mt0, ↓DL.w_mt0L, ↓DL.w_ic, DL.isO_obj, ↓DL.w_make, ↓DL.w_b2M, ↓DL.w_b2MT, DL.c_intU, DL.c_intbU, ↓DL.w_mthL, ↓DL.w_uM, ↓DL.w_inv, ↓DL.w_bin_obj, ↓DL.w_bin_int, ↓DL.w_fldS, DL.m_fld, DL.atI_new, DL.putD, ↓DL.w_repL, ↓DL.w_isiC, ↓DL.w_par3, ↓DL.wPar3_3, DL.m_count, DL.wretL_new, DL.wret_new, ↓DL.c_setSort, DL.o_addI, DL.o_inS, DL.o_ninS, ↓DL.c_str, ↓DL.c_intSw, ↓DL.m_ext, DL.slt_l, DL.slt_t, DL.slt_r, ↓DL.c_dm, ↓DL.c_split, ↓DL.c_join, ↓DL.c_rep, ↓DL.x_str, ↓DL.o_catRL, ↓DL.o_addRL, ↓DL.wret_tup, ↓DL.wret_lst, List.take_length, List.length_cons, List.length_nil, List.length_map, Int.cast_ofNat_Int, Bool.not_true, Bool.not_false, Int.reduceAdd, Int.reduceSub, Int.reduceMul, Int.reduceNeg, Int.reduceEq, Int.reduceLT, Int.reduceLE, Nat.reduceAdd, Nat.reduceSub, eq_self, not_true_eq_false, not_false_eq_true, false_implies, implies_true, true_implies, ff_Profile_own_cold, ff_Profile_own_pieces, fm_Profile_pieces, fm_Profile_accesses, fm_Profile_cold, isf_Profile_Profile, isf_Profile_0s, isf_Profile_0i, isf_Profile_0l, isf_Profile_0t, isf_Profile_0n, isf_Profile_0b, isf_Profile_0d])
section
variable {S R : Cells} {E : Xc → Cells → Prop} {Q : D → Cells → Prop} {QL : List D → Cells → Prop}
theorem ixn_last (n : Nat) : ixN (n + 1) (-1) = some n := by
  unfold ixN
  simp
  omega
theorem at_last {R : List MP.T} {p : MP.T} : wAt ((R ++ [p]).map encT) (-1) S Q = Q (encT p) S := wAt_some (by
  unfold atI
  rw [show ((R ++ [p]).map encT).length = R.length + 1 by simp, ixn_last]
  show ((R ++ [p]).map encT)[R.length]? = _
  simp)
theorem set_last {R : List MP.T} {p : MP.T} {d : D} : ((R ++ [p]).map encT).set R.length d = R.map encT ++ [d] := by simp
end

end K12
end
section
set_option maxHeartbeats 4000000
set_option exponentiation.threshold 3000
namespace K12
open PySem PySem.Spec L2 DL
open PyProof.Rows hiding St
open Lean in
local macro_rules | `(tactic| push_cast [$ts,*]) => `(tactic| simp only [↓DL.r0, ↓DL.r1, ↓DL.r2, ↓DL.r3, ↓DL.r4, ↓DL.r5, ↓DL.r6, ↓DL.r7, ↓DL.r8, ↓DL.r9, ↓DL.r10, ↓DL.r11, ↓DL.r12, ↓DL.r13, ↓DL.r14, ↓DL.r15, ↓DL.r16, ↓DL.r17, ↓DL.r18, ↓DL.r19, ↓DL.r20, ↓DL.r21, ↓DL.r22, ↓DL.r23, ↓DL.r24, ↓DL.r25, ↓DL.r26, ↓DL.r27, ↓DL.r28, ↓DL.r29, DL.s0, DL.s1, DL.s2, DL.s3, DL.s4, DL.s5, DL.s6, DL.s7, DL.s8, DL.s9, DL.s10, DL.s11, DL.s12, DL.s13, DL.s14, DL.s15, DL.s16, DL.s17, DL.s18, DL.s19, DL.s20, DL.s21, DL.s22, DL.s23, DL.s24, DL.s25, DL.s26, DL.s27, DL.s28, DL.s29, DL.startD_cons, DL.startD_nil, DL.startD_zero, ↓DL.w_ok, ↓DL.w_some, ↓DL.w_somec, ↓DL.w_bind, ↓DL.w_opt, ↓DL.w_chg, ↓DL.w_kon, ↓DL.w_calm, ↓DL.w_b2, ↓DL.w_b2L, ↓DL.w_b1, ↓DL.wB_bl, ↓DL.w_asB, ↓DL.w_b2T, ↓DL.w_chE, ↓DL.w_chT, ↓DL.w_not, ↓DL.w_val, ↓DL.w_notE, ↓DL.w_ifE, ↓DL.w_ifL, ↓DL.w_andM, ↓DL.w_orM, ↓DL.w_andE, ↓DL.w_orE, ↓DL.w_nil, ↓DL.w_cons, ↓DL.w_tup, ↓DL.w_lst, ↓DL.w_frz, ↓DL.w_new, ↓DL.w_cel, ↓DL.w_cb, ↓DL.w_cbL, ↓DL.w_call, ↓DL.w_callL, ↓DL.w_ar0, ↓DL.w_ar1, ↓DL.w_ar2, ↓DL.w_ar3, ↓DL.w_ar4, ↓DL.w_ar5, ↓DL.w_ar6, ↓DL.w_noO, ↓DL.w_smO, ↓DL.w_sl, ↓DL.w_slL, ↓DL.w_rev, ↓DL.w_step, ↓DL.w_isi, ↓DL.w_sets, ↓DL.w_lrg, ↓DL.w_mth, ↓DL.w_mth0, ↓DL.w_itS, ↓DL.w_itR1, ↓DL.w_itR2, ↓DL.w_itR3, ↓DL.w_itZ, ↓DL.w_itN, ↓DL.w_lc, ↓DL.w_nx, ↓DL.w_rt, ↓DL.w_seq, ↓DL.w_set, ↓DL.wPar_2, ↓DL.w_par, ↓DL.w_aug, ↓DL.w_sto, ↓DL.w_exp, ↓DL.w_ret, ↓DL.w_retN, ↓DL.w_nxS, ↓DL.w_ifS, ↓DL.w_for, ↓DL.w_asg, ↓DL.w_stk, ↓DL.w_body, ↓DL.w_bodyL, ↓DL.wret_non, ↓DL.wret_bl, ↓DL.wret_int, ↓DL.wret_str, ↓DL.wif_t, ↓DL.wif_f, ↓DL.wif_d, ↓DL.wif_n, ↓DL.wif_a, ↓DL.wif_o, DL.few0, DL.few1, DL.few2, DL.few3, DL.few4, DL.few5, DL.few6, DL.few7, DL.few8, DL.few9, DL.few10, true_and, and_true, ↓DL.a_nm, ↓DL.a_tp1, ↓DL.a_tp2, ↓DL.a_tp3, ↓DL.a_tp4, ↓DL.a_tp5, ↓DL.a_tpn, ↓DL.a_tpm, ↓DL.a_encP, DL.wipe_nil, DL.wipe_cons, DL.o_add, DL.o_sub, DL.o_neg, ↓DL.o_mul, ↓DL.o_div, ↓DL.o_mod, DL.o_pow, ↓DL.o_p10_3, ↓DL.o_p10_4, ↓DL.o_p10_6, ↓DL.o_p10_8, ↓DL.o_p10_9, ↓DL.o_p10_12, ↓DL.o_p10_15, ↓DL.o_p10_18, ↓DL.o_p10_20, ↓DL.o_p10_25, ↓DL.o_p10_26, ↓DL.o_p10_27, ↓DL.o_p10_28, ↓DL.o_p10_29, ↓DL.o_p10_30, ↓DL.o_p10_31, ↓DL.o_p10_36, ↓DL.o_p10_38, ↓DL.o_p10_40, ↓DL.o_p10_42, ↓DL.o_p10_44, ↓DL.o_p10_46, ↓DL.o_p10_48, ↓DL.o_p10_50, ↓DL.o_p10_60, ↓DL.o_p10_64, ↓DL.o_p10_70, ↓DL.o_p10_90, ↓DL.o_p10_99, ↓DL.o_p10_100, ↓DL.o_addS, ↓DL.o_addT, ↓DL.o_catL, ↓DL.o_addL, DL.o_lt, DL.o_le, DL.o_gt, DL.o_ge, DL.o_eqI, DL.o_neI, DL.o_eqS, DL.o_neS, DL.o_is, DL.o_isn, DL.n_non, DL.n_bl, DL.n_int, DL.n_str, DL.n_lst, DL.n_tup, DL.n_ref, DL.n_obj, DL.i_non_int, DL.i_non_bool, DL.i_non_str, DL.i_non_list, DL.i_non_tuple, DL.i_bl_int, DL.i_bl_bool, DL.i_bl_str, DL.i_bl_list, DL.i_bl_tuple, DL.i_int_int, DL.i_int_bool, DL.i_int_str, DL.i_int_list, DL.i_int_tuple, DL.i_str_int, DL.i_str_bool, DL.i_str_str, DL.i_str_list, DL.i_str_tuple, DL.i_lst_int, DL.i_lst_bool, DL.i_lst_str, DL.i_lst_list, DL.i_lst_tuple, DL.i_tup_int, DL.i_tup_bool, DL.i_tup_str, DL.i_tup_list, DL.i_tup_tuple, DL.t_non, DL.t_bl, DL.t_int, DL.t_lst, DL.t_tup, ↓DL.x_lst, ↓DL.x_tup, ↓DL.x_encP0, ↓DL.x_encP1, DL.ixn1_0, DL.ixn1_m1, DL.ixn2_0, DL.ixn2_1, DL.ixn2_m1, DL.ixn3_0, DL.ixn3_1, DL.ixn3_2, DL.ixn3_m1, DL.ixn4_0, DL.ixn4_1, DL.ixn4_2, DL.ixn4_3, DL.ixn4_m1, DL.ixn5_0, DL.ixn5_1, DL.ixn5_2, DL.ixn5_3, DL.ixn5_4, DL.ixn5_m1, DL.ixn6_0, DL.ixn6_1, DL.ixn6_2, DL.ixn6_3, DL.ixn6_4, DL.ixn6_5, DL.ixn6_m1, DL.ixn7_0, DL.ixn7_1, DL.ixn7_2, DL.ixn7_3, DL.ixn7_4, DL.ixn7_5, DL.ixn7_6, DL.ixn7_m1, DL.ixn8_0, DL.ixn8_1, DL.ixn8_2, DL.ixn8_3, DL.ixn8_4, DL.ixn8_5, DL.ixn8_6, DL.ixn8_7, DL.ixn8_m1, ↓DL.x1_0, ↓DL.x1_m1, ↓DL.x2_0, ↓DL.x2_1, ↓DL.x2_m1, ↓DL.x3_0, ↓DL.x3_1, ↓DL.x3_2, ↓DL.x3_m1, ↓DL.x4_0, ↓DL.x4_1, ↓DL.x4_2, ↓DL.x4_3, ↓DL.x4_m1, ↓DL.x5_0, ↓DL.x5_1, ↓DL.x5_2, ↓DL.x5_3, ↓DL.x5_4, ↓DL.x5_m1, ↓DL.x6_0, ↓DL.x6_1, ↓DL.x6_2, ↓DL.x6_3, ↓DL.x6_4, ↓DL.x6_5, ↓DL.x6_m1, ↓DL.x7_0, ↓DL.x7_1, ↓DL.x7_2, ↓DL.x7_3, ↓DL.x7_4, ↓DL.x7_5, ↓DL.x7_6, ↓DL.x7_m1, ↓DL.x8_0, ↓DL.x8_1, ↓DL.x8_2, ↓DL.x8_3, ↓DL.x8_4, ↓DL.x8_5, ↓DL.x8_6, ↓DL.x8_7, ↓DL.x8_m1, DL.c_abs, DL.c_max2, DL.c_min2, DL.c_int, DL.c_intb, DL.c_lenS, DL.c_lenT, DL.c_lenL, DL.c_listT, DL.c_listL, DL.c_tupT, DL.c_tupL, DL.c_sum, DL.c_sum0, DL.c_all, DL.c_any, DL.c_minP, DL.c_maxP, DL.c_sortP, DL.c_zip, DL.c_enum, DL.c_range1, DL.c_range2, DL.g_lst, DL.g_tup, DL.g_str, DL.p_int, DL.sq_lst, DL.sl_lst, DL.sl_tup, DL.sl_str, DL.slL_lst, DL.om_some, List.set_cons_zero, List.set_cons_succ, DL.m_tyL, DL.m_tyS, DL.m_ty, DL.m_app, DL.m_sto, DL.m_fzL, DL.m_fzI, DL.m_fzT, DL.m_fz, DL.x_ref, DL.c_lenR, DL.c_listR, DL.c_tupR, DL.sl_ref, DL.atL_new, DL.atL_new1, DL.atL_new2, DL.atL_old, DL.set_new, DL.set_new1, DL.set_new2, DL.set_old, DL.take_app, DL.app_app, DL.cons_app, DL.nil_app, DL.len_app1, DL.len_app2, DL.len_app3, DL.len_set, DL.seq_new, DL.seq_new1, DL.seq_new2, DL.seq_old, DL.ex_some, DL.fl_non, DL.fl_int, DL.fl_bl, DL.fl_str, DL.fl_tup, DL.fl_lst, DL.fl_obj, DL.fl_nil, DL.fl_cons, DL.fl_app, DL.fl_encP, Bool.and_self, Bool.and_true, Bool.true_and, List.set_set, ↓DL.w_yes, ↓DL.w_fld, ↓DL.w_mt, ↓DL.w_mtL, ↓DL.w_mt0, ↓DL.w_mt0L, ↓DL.w_ic, DL.isO_obj, ↓DL.w_make, ↓DL.w_b2M, ↓DL.w_b2MT, DL.c_intU, DL.c_intbU, ↓DL.w_mthL, ↓DL.w_uM, ↓DL.w_inv, ↓DL.w_bin_obj, ↓DL.w_bin_int, ↓DL.w_fldS, DL.m_fld, DL.atI_new, DL.putD, ↓DL.w_repL, ↓DL.w_isiC, ↓DL.w_par3, ↓DL.wPar3_3, DL.m_count, DL.wretL_new, DL.wret_new, ↓DL.c_setSort, DL.o_addI, DL.o_inS, DL.o_ninS, ↓DL.c_str, ↓DL.c_intSw, ↓DL.m_ext, DL.slt_l, DL.slt_t, DL.slt_r, ↓DL.c_dm, ↓DL.c_split, ↓DL.c_join, ↓DL.c_rep, ↓DL.x_str, ↓DL.o_catRL, ↓DL.o_addRL, ↓DL.wret_tup, ↓DL.wret_lst, List.take_length, List.length_cons, List.length_nil, List.length_map, Int.cast_ofNat_Int, Bool.not_true, Bool.not_false, Int.reduceAdd, Int.reduceSub, Int.reduceMul, Int.reduceNeg, Int.reduceEq, Int.reduceLT, Int.reduceLE, Nat.reduceAdd, Nat.reduceSub, eq_self, not_true_eq_false, not_false_eq_true, false_implies, implies_true, true_implies, ff_Profile_own_cold, ff_Profile_own_pieces, fm_Profile_pieces, fm_Profile_accesses, fm_Profile_cold, isf_Profile_Profile, isf_Profile_0s, isf_Profile_0i, isf_Profile_0l, isf_Profile_0t, isf_Profile_0n, isf_Profile_0b, isf_Profile_0d, $ts,*])
open Lean in
local macro_rules | `(tactic| push_cast) => `(tactic| simp only [↓DL.r0, ↓DL.r1, ↓DL.r2, ↓DL.r3, ↓DL.r4, ↓DL.r5, ↓DL.r6, ↓DL.r7, ↓DL.r8, ↓DL.r9, ↓DL.r10, ↓DL.r11, ↓DL.r12, ↓DL.r13, ↓DL.r14, ↓DL.r15, ↓DL.r16, ↓DL.r17, ↓DL.r18, ↓DL.r19, ↓DL.r20, ↓DL.r21, ↓DL.r22, ↓DL.r23, ↓DL.r24, ↓DL.r25, ↓DL.r26, ↓DL.r27, ↓DL.r28, ↓DL.r29, DL.s0, DL.s1, DL.s2, DL.s3, DL.s4, DL.s5, DL.s6, DL.s7, DL.s8, DL.s9, DL.s10, DL.s11, DL.s12, DL.s13, DL.s14, DL.s15, DL.s16, DL.s17, DL.s18, DL.s19, DL.s20, DL.s21, DL.s22, DL.s23, DL.s24, DL.s25, DL.s26, DL.s27, DL.s28, DL.s29, DL.startD_cons, DL.startD_nil, DL.startD_zero, ↓DL.w_ok, ↓DL.w_some, ↓DL.w_somec, ↓DL.w_bind, ↓DL.w_opt, ↓DL.w_chg, ↓DL.w_kon, ↓DL.w_calm, ↓DL.w_b2, ↓DL.w_b2L, ↓DL.w_b1, ↓DL.wB_bl, ↓DL.w_asB, ↓DL.w_b2T, ↓DL.w_chE, ↓DL.w_chT, ↓DL.w_not, ↓DL.w_val, ↓DL.w_notE, ↓DL.w_ifE, ↓DL.w_ifL, ↓DL.w_andM, ↓DL.w_orM, ↓DL.w_andE, ↓DL.w_orE, ↓DL.w_nil, ↓DL.w_cons, ↓DL.w_tup, ↓DL.w_lst, ↓DL.w_frz, ↓DL.w_new, ↓DL.w_cel, ↓DL.w_cb, ↓DL.w_cbL, ↓DL.w_call, ↓DL.w_callL, ↓DL.w_ar0, ↓DL.w_ar1, ↓DL.w_ar2, ↓DL.w_ar3, ↓DL.w_ar4, ↓DL.w_ar5, ↓DL.w_ar6, ↓DL.w_noO, ↓DL.w_smO, ↓DL.w_sl, ↓DL.w_slL, ↓DL.w_rev, ↓DL.w_step, ↓DL.w_isi, ↓DL.w_sets, ↓DL.w_lrg, ↓DL.w_mth, ↓DL.w_mth0, ↓DL.w_itS, ↓DL.w_itR1, ↓DL.w_itR2, ↓DL.w_itR3, ↓DL.w_itZ, ↓DL.w_itN, ↓DL.w_lc, ↓DL.w_nx, ↓DL.w_rt, ↓DL.w_seq, ↓DL.w_set, ↓DL.wPar_2, ↓DL.w_par, ↓DL.w_aug, ↓DL.w_sto, ↓DL.w_exp, ↓DL.w_ret, ↓DL.w_retN, ↓DL.w_nxS, ↓DL.w_ifS, ↓DL.w_for, ↓DL.w_asg, ↓DL.w_stk, ↓DL.w_body, ↓DL.w_bodyL, ↓DL.wret_non, ↓DL.wret_bl, ↓DL.wret_int, ↓DL.wret_str, ↓DL.wif_t, ↓DL.wif_f, ↓DL.wif_d, ↓DL.wif_n, ↓DL.wif_a, ↓DL.wif_o, DL.few0, DL.few1, DL.few2, DL.few3, DL.few4, DL.few5, DL.few6, DL.few7, DL.few8, DL.few9, DL.few10, true_and, and_true, ↓DL.a_nm, ↓DL.a_tp1, ↓DL.a_tp2, ↓DL.a_tp3, ↓DL.a_tp4, ↓DL.a_tp5, ↓DL.a_tpn, ↓DL.a_tpm, ↓DL.a_encP, DL.wipe_nil, DL.wipe_cons, DL.o_add, DL.o_sub, DL.o_neg, ↓DL.o_mul, ↓DL.o_div, ↓DL.o_mod, DL.o_pow, ↓DL.o_p10_3, ↓DL.o_p10_4, ↓DL.o_p10_6, ↓DL.o_p10_8, ↓DL.o_p10_9, ↓DL.o_p10_12, ↓DL.o_p10_15, ↓DL.o_p10_18, ↓DL.o_p10_20, ↓DL.o_p10_25, ↓DL.o_p10_26, ↓DL.o_p10_27, ↓DL.o_p10_28, ↓DL.o_p10_29, ↓DL.o_p10_30, ↓DL.o_p10_31, ↓DL.o_p10_36, ↓DL.o_p10_38, ↓DL.o_p10_40, ↓DL.o_p10_42, ↓DL.o_p10_44, ↓DL.o_p10_46, ↓DL.o_p10_48, ↓DL.o_p10_50, ↓DL.o_p10_60, ↓DL.o_p10_64, ↓DL.o_p10_70, ↓DL.o_p10_90, ↓DL.o_p10_99, ↓DL.o_p10_100, ↓DL.o_addS, ↓DL.o_addT, ↓DL.o_catL, ↓DL.o_addL, DL.o_lt, DL.o_le, DL.o_gt, DL.o_ge, DL.o_eqI, DL.o_neI, DL.o_eqS, DL.o_neS, DL.o_is, DL.o_isn, DL.n_non, DL.n_bl, DL.n_int, DL.n_str, DL.n_lst, DL.n_tup, DL.n_ref, DL.n_obj, DL.i_non_int, DL.i_non_bool, DL.i_non_str, DL.i_non_list, DL.i_non_tuple, DL.i_bl_int, DL.i_bl_bool, DL.i_bl_str, DL.i_bl_list, DL.i_bl_tuple, DL.i_int_int, DL.i_int_bool, DL.i_int_str, DL.i_int_list, DL.i_int_tuple, DL.i_str_int, DL.i_str_bool, DL.i_str_str, DL.i_str_list, DL.i_str_tuple, DL.i_lst_int, DL.i_lst_bool, DL.i_lst_str, DL.i_lst_list, DL.i_lst_tuple, DL.i_tup_int, DL.i_tup_bool, DL.i_tup_str, DL.i_tup_list, DL.i_tup_tuple, DL.t_non, DL.t_bl, DL.t_int, DL.t_lst, DL.t_tup, ↓DL.x_lst, ↓DL.x_tup, ↓DL.x_encP0, ↓DL.x_encP1, DL.ixn1_0, DL.ixn1_m1, DL.ixn2_0, DL.ixn2_1, DL.ixn2_m1, DL.ixn3_0, DL.ixn3_1, DL.ixn3_2, DL.ixn3_m1, DL.ixn4_0, DL.ixn4_1, DL.ixn4_2, DL.ixn4_3, DL.ixn4_m1, DL.ixn5_0, DL.ixn5_1, DL.ixn5_2, DL.ixn5_3, DL.ixn5_4, DL.ixn5_m1, DL.ixn6_0, DL.ixn6_1, DL.ixn6_2, DL.ixn6_3, DL.ixn6_4, DL.ixn6_5, DL.ixn6_m1, DL.ixn7_0, DL.ixn7_1, DL.ixn7_2, DL.ixn7_3, DL.ixn7_4, DL.ixn7_5, DL.ixn7_6, DL.ixn7_m1, DL.ixn8_0, DL.ixn8_1, DL.ixn8_2, DL.ixn8_3, DL.ixn8_4, DL.ixn8_5, DL.ixn8_6, DL.ixn8_7, DL.ixn8_m1, ↓DL.x1_0, ↓DL.x1_m1, ↓DL.x2_0, ↓DL.x2_1, ↓DL.x2_m1, ↓DL.x3_0, ↓DL.x3_1, ↓DL.x3_2, ↓DL.x3_m1, ↓DL.x4_0, ↓DL.x4_1, ↓DL.x4_2, ↓DL.x4_3, ↓DL.x4_m1, ↓DL.x5_0, ↓DL.x5_1, ↓DL.x5_2, ↓DL.x5_3, ↓DL.x5_4, ↓DL.x5_m1, ↓DL.x6_0, ↓DL.x6_1, ↓DL.x6_2, ↓DL.x6_3, ↓DL.x6_4, ↓DL.x6_5, ↓DL.x6_m1, ↓DL.x7_0, ↓DL.x7_1, ↓DL.x7_2, ↓DL.x7_3, ↓DL.x7_4, ↓DL.x7_5, ↓DL.x7_6, ↓DL.x7_m1, ↓DL.x8_0, ↓DL.x8_1, ↓DL.x8_2, ↓DL.x8_3, ↓DL.x8_4, ↓DL.x8_5, ↓DL.x8_6, ↓DL.x8_7, ↓DL.x8_m1, DL.c_abs, DL.c_max2, DL.c_min2, DL.c_int, DL.c_intb, DL.c_lenS, DL.c_lenT, DL.c_lenL, DL.c_listT, DL.c_listL, DL.c_tupT, DL.c_tupL, DL.c_sum, DL.c_sum0, DL.c_all, DL.c_any, DL.c_minP, DL.c_maxP, DL.c_sortP, DL.c_zip, DL.c_enum, DL.c_range1, DL.c_range2, DL.g_lst, DL.g_tup, DL.g_str, DL.p_int, DL.sq_lst, DL.sl_lst, DL.sl_tup, DL.sl_str, DL.slL_lst, DL.om_some, List.set_cons_zero, List.set_cons_succ, DL.m_tyL, DL.m_tyS, DL.m_ty, DL.m_app, DL.m_sto, DL.m_fzL, DL.m_fzI, DL.m_fzT, DL.m_fz, DL.x_ref, DL.c_lenR, DL.c_listR, DL.c_tupR, DL.sl_ref, DL.atL_new, DL.atL_new1, DL.atL_new2, DL.atL_old, DL.set_new, DL.set_new1, DL.set_new2, DL.set_old, DL.take_app, DL.app_app, DL.cons_app, DL.nil_app, DL.len_app1, DL.len_app2, DL.len_app3, DL.len_set, DL.seq_new, DL.seq_new1, DL.seq_new2, DL.seq_old, DL.ex_some, DL.fl_non, DL.fl_int, DL.fl_bl, DL.fl_str, DL.fl_tup, DL.fl_lst, DL.fl_obj, DL.fl_nil, DL.fl_cons, DL.fl_app, DL.fl_encP, Bool.and_self, Bool.and_true, Bool.true_and, List.set_set, ↓DL.w_yes, ↓DL.w_fld, ↓DL.w_mt, ↓DL.w_mtL, ↓DL.w_mt0, ↓DL.w_mt0L, ↓DL.w_ic, DL.isO_obj, ↓DL.w_make, ↓DL.w_b2M, ↓DL.w_b2MT, DL.c_intU, DL.c_intbU, ↓DL.w_mthL, ↓DL.w_uM, ↓DL.w_inv, ↓DL.w_bin_obj, ↓DL.w_bin_int, ↓DL.w_fldS, DL.m_fld, DL.atI_new, DL.putD, ↓DL.w_repL, ↓DL.w_isiC, ↓DL.w_par3, ↓DL.wPar3_3, DL.m_count, DL.wretL_new, DL.wret_new, ↓DL.c_setSort, DL.o_addI, DL.o_inS, DL.o_ninS, ↓DL.c_str, ↓DL.c_intSw, ↓DL.m_ext, DL.slt_l, DL.slt_t, DL.slt_r, ↓DL.c_dm, ↓DL.c_split, ↓DL.c_join, ↓DL.c_rep, ↓DL.x_str, ↓DL.o_catRL, ↓DL.o_addRL, ↓DL.wret_tup, ↓DL.wret_lst, List.take_length, List.length_cons, List.length_nil, List.length_map, Int.cast_ofNat_Int, Bool.not_true, Bool.not_false, Int.reduceAdd, Int.reduceSub, Int.reduceMul, Int.reduceNeg, Int.reduceEq, Int.reduceLT, Int.reduceLE, Nat.reduceAdd, Nat.reduceSub, eq_self, not_true_eq_false, not_false_eq_true, false_implies, implies_true, true_implies, ff_Profile_own_cold, ff_Profile_own_pieces, fm_Profile_pieces, fm_Profile_accesses, fm_Profile_cold, isf_Profile_Profile, isf_Profile_0s, isf_Profile_0i, isf_Profile_0l, isf_Profile_0t, isf_Profile_0n, isf_Profile_0b, isf_Profile_0d])
section
variable {S R : Cells} {E : Xc → Cells → Prop} {Q : D → Cells → Prop} {QL : List D → Cells → Prop}
/-- a canonical list, its length, how far and how often -/
structure PG (z : Nat) (t : Int) (J : List MP.T) : Prop where
  can : MP.Canon 1 J
  len : J.length ≤ z
  far : ∀ p ∈ J, p.2.1 ≤ 10 ^ 50
  oft : ∀ p ∈ J, p.2.2 ≤ t
  nn : 0 ≤ t
theorem PG.pos {z : Nat} {t : Int} {J : List MP.T} (h : PG z t J) : ∀ p ∈ J, 1 ≤ p.1 ∧ p.1 ≤ p.2.1 ∧ 0 ≤ p.2.2 := pos_of (Int.le_refl 1) h.can.asc
theorem PG.cnt {z : Nat} {t : Int} {J : List MP.T} (h : PG z t J) (d : Int) : 0 ≤ MP.cnt J d ∧ MP.cnt J d ≤ t := by
  refine ⟨MP.cnt_nn (fun p hp => (h.pos p hp).2.2) d, ?_⟩
  by_cases q : MP.cnt J d = 0
  · rw [q]; exact h.nn
  · obtain ⟨p, hp, hi⟩ := MP.cnt_mem q
    rw [MP.asc_cnt h.can.asc hp hi]
    exact h.oft p hp
theorem PG.same {z : Nat} {t : Int} {J K : List MP.T} (h : PG z t J) (k : MP.Canon 1 K) (e : ∀ d, MP.cnt K d = MP.cnt J d) : K = J := MP.canon_uniq k h.can e
/-- .. from where they come -/
theorem PG.of {z : Nat} {t : Int} {J : List MP.T} (hc : MP.Canon 1 J) (hl : J.length ≤ z) (ht : 0 ≤ t) (hf : ∀ d, 10 ^ 50 < d → MP.cnt J d = 0) (ho : ∀ d, MP.cnt J d ≤ t) : PG z t J :=
  ⟨hc, hl, fun p hp => by
    have hm := hc.asc.mem p hp
    have e := MP.asc_cnt hc.asc hp (d := p.2.1) (MP.inT_iff.mpr ⟨hm.2.1, Int.le_refl _⟩)
    refine Classical.byContradiction fun z => ?_
    have := hf p.2.1 (by omega)
    omega, fun p hp => by
    have hm := hc.asc.mem p hp
    have e := MP.asc_cnt hc.asc hp (d := p.2.1) (MP.inT_iff.mpr ⟨hm.2.1, Int.le_refl _⟩)
    have := ho p.2.1
    omega, ht⟩
theorem PG.beyond {z : Nat} {t : Int} {J : List MP.T} (h : PG z t J) {d : Int} (hd : 10 ^ 50 < d) : MP.cnt J d = 0 := by
  refine Classical.byContradiction fun q => ?_
  obtain ⟨p, hp, hi⟩ := MP.cnt_mem q
  have := h.far p hp
  have := MP.inT_iff.mp hi
  omega
theorem PG.sc {z : Nat} {t m : Int} {J : List MP.T} (h : PG z t J) (hm : 0 ≤ m) : PG z (m * t) (MP.sc m J) :=
  .of (MP.canon_sc h.can) (Nat.le_trans MP.len_sc h.len) (Int.mul_nonneg hm h.nn) (fun d hd => by rw [MP.cnt_sc hm, h.beyond hd, Int.mul_zero]) fun d => by
    rw [MP.cnt_sc hm]
    exact Int.mul_le_mul_of_nonneg_left (h.cnt d).2 hm
theorem isC_cold {c : Int} {J : List MP.T} : isC NMf 0 "cold" (prof c J) S = some () := fm_Profile_cold
theorem isC_pieces {c : Int} {J : List MP.T} : isC NMf 0 "pieces" (prof c J) S = some () := fm_Profile_pieces
theorem cold_ok {c : Int} {J : List MP.T} : g_Profile_cold [prof c J] S = .ok (.int c) S := by
  refine wp_ok ?_
  push_cast [g_Profile_cold, B_Profile_cold, fc]
theorem pieces_ok {c : Int} {J : List MP.T} : g_Profile_pieces [prof c J] S = .ok (J.map encT) S := by
  refine wp_ok ?_
  push_cast [g_Profile_pieces, B_Profile_pieces, fp]
  exact fl_ts
theorem PG.gd {z : Nat} {t : Int} {J : List MP.T} (h : PG z t J) (ht : t < 10 ^ 90) : Gd 2 (.lst (J.map encT)) := gd_pieces fun p hp => by
  have := h.pos p hp
  have := h.far p hp
  have := h.oft p hp
  omega
theorem eqO {z : Nat} {t c : Int} {J : List MP.T} (h : PG z t J) (ht : t < 10 ^ 90) : ∀ S, eqOwn 0 g_Profile___eq__ (prof c J) (prof c J) S = .ok (.bl true) S := fun S => wp_ok (w_eq_obj (by
  have e : ∀ S, dEq (.tup (J.map encT)) (.tup (J.map encT)) S = some (.bl true) := fun S => dEq_same (n := 2) (.tup (by
    have := h.gd ht
    cases this with
    | lst q => exact q)) (by decide)
  push_cast [g_Profile___eq__, B_Profile___eq__]
  have e2 : isiCD tab_Profile (.obj 0 [.int c, .tup (J.map encT)]) S = some (.bl true) := rfl
  push_cast [e2, ff_Profile_own_cold, ff_Profile_own_pieces, decide_true, e]
  exact ⟨true, rfl, rfl⟩))
end

end K12
end
section
set_option maxHeartbeats 4000000
set_option exponentiation.threshold 3000
namespace K12
open PySem PySem.Spec L2 DL
open PyProof.Rows hiding St
open Lean in
local macro_rules | `(tactic| push_cast [$ts,*]) => `(tactic| simp only [↓DL.r0, ↓DL.r1, ↓DL.r2, ↓DL.r3, ↓DL.r4, ↓DL.r5, ↓DL.r6, ↓DL.r7, ↓DL.r8, ↓DL.r9, ↓DL.r10, ↓DL.r11, ↓DL.r12, ↓DL.r13, ↓DL.r14, ↓DL.r15, ↓DL.r16, ↓DL.r17, ↓DL.r18, ↓DL.r19, ↓DL.r20, ↓DL.r21, ↓DL.r22, ↓DL.r23, ↓DL.r24, ↓DL.r25, ↓DL.r26, ↓DL.r27, ↓DL.r28, ↓DL.r29, DL.s0, DL.s1, DL.s2, DL.s3, DL.s4, DL.s5, DL.s6, DL.s7, DL.s8, DL.s9, DL.s10, DL.s11, DL.s12, DL.s13, DL.s14, DL.s15, DL.s16, DL.s17, DL.s18, DL.s19, DL.s20, DL.s21, DL.s22, DL.s23, DL.s24, DL.s25, DL.s26, DL.s27, DL.s28, DL.s29, DL.startD_cons, DL.startD_nil, DL.startD_zero, ↓DL.w_ok, ↓DL.w_some, ↓DL.w_somec, ↓DL.w_bind, ↓DL.w_opt, ↓DL.w_chg, ↓DL.w_kon, ↓DL.w_calm, ↓DL.w_b2, ↓DL.w_b2L, ↓DL.w_b1, ↓DL.wB_bl, ↓DL.w_asB, ↓DL.w_b2T, ↓DL.w_chE, ↓DL.w_chT, ↓DL.w_not, ↓DL.w_val, ↓DL.w_notE, ↓DL.w_ifE, ↓DL.w_ifL, ↓DL.w_andM, ↓DL.w_orM, ↓DL.w_andE, ↓DL.w_orE, ↓DL.w_nil, ↓DL.w_cons, ↓DL.w_tup, ↓DL.w_lst, ↓DL.w_frz, ↓DL.w_new, ↓DL.w_cel, ↓DL.w_cb, ↓DL.w_cbL, ↓DL.w_call, ↓DL.w_callL, ↓DL.w_ar0, ↓DL.w_ar1, ↓DL.w_ar2, ↓DL.w_ar3, ↓DL.w_ar4, ↓DL.w_ar5, ↓DL.w_ar6, ↓DL.w_noO, ↓DL.w_smO, ↓DL.w_sl, ↓DL.w_slL, ↓DL.w_rev, ↓DL.w_step, ↓DL.w_isi, ↓DL.w_sets, ↓DL.w_lrg, ↓DL.w_mth, ↓DL.w_mth0, ↓DL.w_itS, ↓DL.w_itR1, ↓DL.w_itR2, ↓DL.w_itR3, ↓DL.w_itZ, ↓DL.w_itN, ↓DL.w_lc, ↓DL.w_nx, ↓DL.w_rt, ↓DL.w_seq, ↓DL.w_set, ↓DL.wPar_2, ↓DL.w_par, ↓DL.w_aug, ↓DL.w_sto, ↓DL.w_exp, ↓DL.w_ret, ↓DL.w_retN, ↓DL.w_nxS, ↓DL.w_ifS, ↓DL.w_for, ↓DL.w_asg, ↓DL.w_stk, ↓DL.w_body, ↓DL.w_bodyL, ↓DL.wret_non, ↓DL.wret_bl, ↓DL.wret_int, ↓DL.wret_str, ↓DL.wif_t, ↓DL.wif_f, ↓DL.wif_d, ↓DL.wif_n, ↓DL.wif_a, ↓DL.wif_o, DL.few0, DL.few1, DL.few2, DL.few3, DL.few4, DL.few5, DL.few6, DL.few7, DL.few8, DL.few9, DL.few10, true_and, and_true, ↓DL.a_nm, ↓DL.a_tp1, ↓DL.a_tp2, ↓DL.a_tp3, ↓DL.a_tp4, ↓DL.a_tp5, ↓DL.a_tpn, ↓DL.a_tpm, ↓DL.a_encP, DL.wipe_nil, DL.wipe_cons, DL.o_add, DL.o_sub, DL.o_neg, ↓DL.o_mul, ↓DL.o_div, ↓DL.o_mod, DL.o_pow, ↓DL.o_p10_3, ↓DL.o_p10_4, ↓DL.o_p10_6, ↓DL.o_p10_8, ↓DL.o_p10_9, ↓DL.o_p10_12, ↓DL.o_p10_15, ↓DL.o_p10_18, ↓DL.o_p10_20, ↓DL.o_p10_25, ↓DL.o_p10_26, ↓DL.o_p10_27, ↓DL.o_p10_28, ↓DL.o_p10_29, ↓DL.o_p10_30, ↓DL.o_p10_31, ↓DL.o_p10_36, ↓DL.o_p10_38, ↓DL.o_p10_40, ↓DL.o_p10_42, ↓DL.o_p10_44, ↓DL.o_p10_46, ↓DL.o_p10_48, ↓DL.o_p10_50, ↓DL.o_p10_60, ↓DL.o_p10_64, ↓DL.o_p10_70, ↓DL.o_p10_90, ↓DL.o_p10_99, ↓DL.o_p10_100, ↓DL.o_addS, ↓DL.o_addT, ↓DL.o_catL, ↓DL.o_addL, DL.o_lt, DL.o_le, DL.o_gt, DL.o_ge, DL.o_eqI, DL.o_neI, DL.o_eqS, DL.o_neS, DL.o_is, DL.o_isn, DL.n_non, DL.n_bl, DL.n_int, DL.n_str, DL.n_lst, DL.n_tup, DL.n_ref, DL.n_obj, DL.i_non_int, DL.i_non_bool, DL.i_non_str, DL.i_non_list, DL.i_non_tuple, DL.i_bl_int, DL.i_bl_bool, DL.i_bl_str, DL.i_bl_list, DL.i_bl_tuple, DL.i_int_int, DL.i_int_bool, DL.i_int_str, DL.i_int_list, DL.i_int_tuple, DL.i_str_int, DL.i_str_bool, DL.i_str_str, DL.i_str_list, DL.i_str_tuple, DL.i_lst_int, DL.i_lst_bool, DL.i_lst_str, DL.i_lst_list, DL.i_lst_tuple, DL.i_tup_int, DL.i_tup_bool, DL.i_tup_str, DL.i_tup_list, DL.i_tup_tuple, DL.t_non, DL.t_bl, DL.t_int, DL.t_lst, DL.t_tup, ↓DL.x_lst, ↓DL.x_tup, ↓DL.x_encP0, ↓DL.x_encP1, DL.ixn1_0, DL.ixn1_m1, DL.ixn2_0, DL.ixn2_1, DL.ixn2_m1, DL.ixn3_0, DL.ixn3_1, DL.ixn3_2, DL.ixn3_m1, DL.ixn4_0, DL.ixn4_1, DL.ixn4_2, DL.ixn4_3, DL.ixn4_m1, DL.ixn5_0, DL.ixn5_1, DL.ixn5_2, DL.ixn5_3, DL.ixn5_4, DL.ixn5_m1, DL.ixn6_0, DL.ixn6_1, DL.ixn6_2, DL.ixn6_3, DL.ixn6_4, DL.ixn6_5, DL.ixn6_m1, DL.ixn7_0, DL.ixn7_1, DL.ixn7_2, DL.ixn7_3, DL.ixn7_4, DL.ixn7_5, DL.ixn7_6, DL.ixn7_m1, DL.ixn8_0, DL.ixn8_1, DL.ixn8_2, DL.ixn8_3, DL.ixn8_4, DL.ixn8_5, DL.ixn8_6, DL.ixn8_7, DL.ixn8_m1, ↓DL.x1_0, ↓DL.x1_m1, ↓DL.x2_0, ↓DL.x2_1, ↓DL.x2_m1, ↓DL.x3_0, ↓DL.x3_1, ↓DL.x3_2, ↓DL.x3_m1, ↓DL.x4_0, ↓DL.x4_1, ↓DL.x4_2, ↓DL.x4_3, ↓DL.x4_m1, ↓DL.x5_0, ↓DL.x5_1, ↓DL.x5_2, ↓DL.x5_3, ↓DL.x5_4, ↓DL.x5_m1, ↓DL.x6_0, ↓DL.x6_1, ↓DL.x6_2, ↓DL.x6_3, ↓DL.x6_4, ↓DL.x6_5, ↓DL.x6_m1, ↓DL.x7_0, ↓DL.x7_1, ↓DL.x7_2, ↓DL.x7_3, ↓DL.x7_4, ↓DL.x7_5, ↓DL.x7_6, ↓DL.x7_m1, ↓DL.x8_0, ↓DL.x8_1, ↓DL.x8_2, ↓DL.x8_3, ↓DL.x8_4, ↓DL.x8_5, ↓DL.x8_6, ↓DL.x8_7, ↓DL.x8_m1, DL.c_abs, DL.c_max2, DL.c_min2, DL.c_int, DL.c_intb, DL.c_lenS, DL.c_lenT, DL.c_lenL, DL.c_listT, DL.c_listL, DL.c_tupT, DL.c_tupL, DL.c_sum, DL.c_sum0, DL.c_all, DL.c_any, DL.c_minP, DL.c_maxP, DL.c_sortP, DL.c_zip, DL.c_enum, DL.c_range1, DL.c_range2, DL.g_lst, DL.g_tup, DL.g_str, DL.p_int, DL.sq_lst, DL.sl_lst, DL.sl_tup, DL.sl_str, DL.slL_lst, DL.om_some, List.set_cons_zero, List.set_cons_succ, DL.m_tyL, DL.m_tyS, DL.m_ty, DL.m_app, DL.m_sto, DL.m_fzL, DL.m_fzI, DL.m_fzT, DL.m_fz, DL.x_ref, DL.c_lenR, DL.c_listR, DL.c_tupR, DL.sl_ref, DL.atL_new, DL.atL_new1, DL.atL_new2, DL.atL_old, DL.set_new, DL.set_new1, DL.set_new2, DL.set_old, DL.take_app, DL.app_app, DL.cons_app, DL.nil_app, DL.len_app1, DL.len_app2, DL.len_app3, DL.len_set, DL.seq_new, DL.seq_new1, DL.seq_new2, DL.seq_old, DL.ex_some, DL.fl_non, DL.fl_int, DL.fl_bl, DL.fl_str, DL.fl_tup, DL.fl_lst, DL.fl_obj, DL.fl_nil, DL.fl_cons, DL.fl_app, DL.fl_encP, Bool.and_self, Bool.and_true, Bool.true_and, List.set_set, ↓DL.w_yes, ↓DL.w_fld, ↓DL.w_mt, ↓DL.w_mtL, ↓DL.w_mt0, ↓DL.w_mt0L, ↓DL.w_ic, DL.isO_obj, ↓DL.w_make, ↓DL.w_b2M, ↓DL.w_b2MT, DL.c_intU, DL.c_intbU, ↓DL.w_mthL, ↓DL.w_uM, ↓DL.w_inv, ↓DL.w_bin_obj, ↓DL.w_bin_int, ↓DL.w_fldS, DL.m_fld, DL.atI_new, DL.putD, ↓DL.w_repL, ↓DL.w_isiC, ↓DL.w_par3, ↓DL.wPar3_3, DL.m_count, DL.wretL_new, DL.wret_new, ↓DL.c_setSort, DL.o_addI, DL.o_inS, DL.o_ninS, ↓DL.c_str, ↓DL.c_intSw, ↓DL.m_ext, DL.slt_l, DL.slt_t, DL.slt_r, ↓DL.c_dm, ↓DL.c_split, ↓DL.c_join, ↓DL.c_rep, ↓DL.x_str, ↓DL.o_catRL, ↓DL.o_addRL, ↓DL.wret_tup, ↓DL.wret_lst, List.take_length, List.length_cons, List.length_nil, List.length_map, Int.cast_ofNat_Int, Bool.not_true, Bool.not_false, Int.reduceAdd, Int.reduceSub, Int.reduceMul, Int.reduceNeg, Int.reduceEq, Int.reduceLT, Int.reduceLE, Nat.reduceAdd, Nat.reduceSub, eq_self, not_true_eq_false, not_false_eq_true, false_implies, implies_true, true_implies, ff_Profile_own_cold, ff_Profile_own_pieces, fm_Profile_pieces, fm_Profile_accesses, fm_Profile_cold, isf_Profile_Profile, isf_Profile_0s, isf_Profile_0i, isf_Profile_0l, isf_Profile_0t, isf_Profile_0n, isf_Profile_0b, isf_Profile_0d, $ts,*])
open Lean in
local macro_rules | `(tactic| push_cast) => `(tactic| simp only [↓DL.r0, ↓DL.r1, ↓DL.r2, ↓DL.r3, ↓DL.r4, ↓DL.r5, ↓DL.r6, ↓DL.r7, ↓DL.r8, ↓DL.r9, ↓DL.r10, ↓DL.r11, ↓DL.r12, ↓DL.r13, ↓DL.r14, ↓DL.r15, ↓DL.r16, ↓DL.r17, ↓DL.r18, ↓DL.r19, ↓DL.r20, ↓DL.r21, ↓DL.r22, ↓DL.r23, ↓DL.r24, ↓DL.r25, ↓DL.r26, ↓DL.r27, ↓DL.r28, ↓DL.r29, DL.s0, DL.s1, DL.s2, DL.s3, DL.s4, DL.s5, DL.s6, DL.s7, DL.s8, DL.s9, DL.s10, DL.s11, DL.s12, DL.s13, DL.s14, DL.s15, DL.s16, DL.s17, DL.s18, DL.s19, DL.s20, DL.s21, DL.s22, DL.s23, DL.s24, DL.s25, DL.s26, DL.s27, DL.s28, DL.s29, DL.startD_cons, DL.startD_nil, DL.startD_zero, ↓DL.w_ok, ↓DL.w_some, ↓DL.w_somec, ↓DL.w_bind, ↓DL.w_opt, ↓DL.w_chg, ↓DL.w_kon, ↓DL.w_calm, ↓DL.w_b2, ↓DL.w_b2L, ↓DL.w_b1, ↓DL.wB_bl, ↓DL.w_asB, ↓DL.w_b2T, ↓DL.w_chE, ↓DL.w_chT, ↓DL.w_not, ↓DL.w_val, ↓DL.w_notE, ↓DL.w_ifE, ↓DL.w_ifL, ↓DL.w_andM, ↓DL.w_orM, ↓DL.w_andE, ↓DL.w_orE, ↓DL.w_nil, ↓DL.w_cons, ↓DL.w_tup, ↓DL.w_lst, ↓DL.w_frz, ↓DL.w_new, ↓DL.w_cel, ↓DL.w_cb, ↓DL.w_cbL, ↓DL.w_call, ↓DL.w_callL, ↓DL.w_ar0, ↓DL.w_ar1, ↓DL.w_ar2, ↓DL.w_ar3, ↓DL.w_ar4, ↓DL.w_ar5, ↓DL.w_ar6, ↓DL.w_noO, ↓DL.w_smO, ↓DL.w_sl, ↓DL.w_slL, ↓DL.w_rev, ↓DL.w_step, ↓DL.w_isi, ↓DL.w_sets, ↓DL.w_lrg, ↓DL.w_mth, ↓DL.w_mth0, ↓DL.w_itS, ↓DL.w_itR1, ↓DL.w_itR2, ↓DL.w_itR3, ↓DL.w_itZ, ↓DL.w_itN, ↓DL.w_lc, ↓DL.w_nx, ↓DL.w_rt, ↓DL.w_seq, ↓DL.w_set, ↓DL.wPar_2, ↓DL.w_par, ↓DL.w_aug, ↓DL.w_sto, ↓DL.w_exp, ↓DL.w_ret, ↓DL.w_retN, ↓DL.w_nxS, ↓DL.w_ifS, ↓DL.w_for, ↓DL.w_asg, ↓DL.w_stk, ↓DL.w_body, ↓DL.w_bodyL, ↓DL.wret_non, ↓DL.wret_bl, ↓DL.wret_int, ↓DL.wret_str, ↓DL.wif_t, ↓DL.wif_f, ↓DL.wif_d, ↓DL.wif_n, ↓DL.wif_a, ↓DL.wif_o, DL.few0, DL.few1, DL.few2, DL.few3, DL.few4, DL.few5, DL.few6, DL.few7, DL.few8, DL.few9, DL.few10, true_and, and_true, ↓DL.a_nm, ↓DL.a_tp1, ↓DL.a_tp2, ↓DL.a_tp3, ↓DL.a_tp4, ↓DL.a_tp5, ↓DL.a_tpn, ↓DL.a_tpm, ↓DL.a_encP, DL.wipe_nil, DL.wipe_cons, DL.o_add, DL.o_sub, DL.o_neg, ↓DL.o_mul, ↓DL.o_div, ↓DL.o_mod, DL.o_pow, ↓DL.o_p10_3, ↓DL.o_p10_4, ↓DL.o_p10_6, ↓DL.o_p10_8, ↓DL.o_p10_9, ↓DL.o_p10_12, ↓DL.o_p10_15, ↓DL.o_p10_18, ↓DL.o_p10_20, ↓DL.o_p10_25, ↓DL.o_p10_26, ↓DL.o_p10_27, ↓DL.o_p10_28, ↓DL.o_p10_29, ↓DL.o_p10_30, ↓DL.o_p10_31, ↓DL.o_p10_36, ↓DL.o_p10_38, ↓DL.o_p10_40, ↓DL.o_p10_42, ↓DL.o_p10_44, ↓DL.o_p10_46, ↓DL.o_p10_48, ↓DL.o_p10_50, ↓DL.o_p10_60, ↓DL.o_p10_64, ↓DL.o_p10_70, ↓DL.o_p10_90, ↓DL.o_p10_99, ↓DL.o_p10_100, ↓DL.o_addS, ↓DL.o_addT, ↓DL.o_catL, ↓DL.o_addL, DL.o_lt, DL.o_le, DL.o_gt, DL.o_ge, DL.o_eqI, DL.o_neI, DL.o_eqS, DL.o_neS, DL.o_is, DL.o_isn, DL.n_non, DL.n_bl, DL.n_int, DL.n_str, DL.n_lst, DL.n_tup, DL.n_ref, DL.n_obj, DL.i_non_int, DL.i_non_bool, DL.i_non_str, DL.i_non_list, DL.i_non_tuple, DL.i_bl_int, DL.i_bl_bool, DL.i_bl_str, DL.i_bl_list, DL.i_bl_tuple, DL.i_int_int, DL.i_int_bool, DL.i_int_str, DL.i_int_list, DL.i_int_tuple, DL.i_str_int, DL.i_str_bool, DL.i_str_str, DL.i_str_list, DL.i_str_tuple, DL.i_lst_int, DL.i_lst_bool, DL.i_lst_str, DL.i_lst_list, DL.i_lst_tuple, DL.i_tup_int, DL.i_tup_bool, DL.i_tup_str, DL.i_tup_list, DL.i_tup_tuple, DL.t_non, DL.t_bl, DL.t_int, DL.t_lst, DL.t_tup, ↓DL.x_lst, ↓DL.x_tup, ↓DL.x_encP0, ↓DL.x_encP1, DL.ixn1_0, DL.ixn1_m1, DL.ixn2_0, DL.ixn2_1, DL.ixn2_m1, DL.ixn3_0, DL.ixn3_1, DL.ixn3_2, DL.ixn3_m1, DL.ixn4_0, DL.ixn4_1, DL.ixn4_2, DL.ixn4_3, DL.ixn4_m1, DL.ixn5_0, DL.ixn5_1, DL.ixn5_2, DL.ixn5_3, DL.ixn5_4, DL.ixn5_m1, DL.ixn6_0, DL.ixn6_1, DL.ixn6_2, DL.ixn6_3, DL.ixn6_4, DL.ixn6_5, DL.ixn6_m1, DL.ixn7_0, DL.ixn7_1, DL.ixn7_2, DL.ixn7_3, DL.ixn7_4, DL.ixn7_5, DL.ixn7_6, DL.ixn7_m1, DL.ixn8_0, DL.ixn8_1, DL.ixn8_2, DL.ixn8_3, DL.ixn8_4, DL.ixn8_5, DL.ixn8_6, DL.ixn8_7, DL.ixn8_m1, ↓DL.x1_0, ↓DL.x1_m1, ↓DL.x2_0, ↓DL.x2_1, ↓DL.x2_m1, ↓DL.x3_0, ↓DL.x3_1, ↓DL.x3_2, ↓DL.x3_m1, ↓DL.x4_0, ↓DL.x4_1, ↓DL.x4_2, ↓DL.x4_3, ↓DL.x4_m1, ↓DL.x5_0, ↓DL.x5_1, ↓DL.x5_2, ↓DL.x5_3, ↓DL.x5_4, ↓DL.x5_m1, ↓DL.x6_0, ↓DL.x6_1, ↓DL.x6_2, ↓DL.x6_3, ↓DL.x6_4, ↓DL.x6_5, ↓DL.x6_m1, ↓DL.x7_0, ↓DL.x7_1, ↓DL.x7_2, ↓DL.x7_3, ↓DL.x7_4, ↓DL.x7_5, ↓DL.x7_6, ↓DL.x7_m1, ↓DL.x8_0, ↓DL.x8_1, ↓DL.x8_2, ↓DL.x8_3, ↓DL.x8_4, ↓DL.x8_5, ↓DL.x8_6, ↓DL.x8_7, ↓DL.x8_m1, DL.c_abs, DL.c_max2, DL.c_min2, DL.c_int, DL.c_intb, DL.c_lenS, DL.c_lenT, DL.c_lenL, DL.c_listT, DL.c_listL, DL.c_tupT, DL.c_tupL, DL.c_sum, DL.c_sum0, DL.c_all, DL.c_any, DL.c_minP, DL.c_maxP, DL.c_sortP, DL.c_zip, DL.c_enum, DL.c_range1, DL.c_range2, DL.g_lst, DL.g_tup, DL.g_str, DL.p_int, DL.sq_lst, DL.sl_lst, DL.sl_tup, DL.sl_str, DL.slL_lst, DL.om_some, List.set_cons_zero, List.set_cons_succ, DL.m_tyL, DL.m_tyS, DL.m_ty, DL.m_app, DL.m_sto, DL.m_fzL, DL.m_fzI, DL.m_fzT, DL.m_fz, DL.x_ref, DL.c_lenR, DL.c_listR, DL.c_tupR, DL.sl_ref, DL.atL_new, DL.atL_new1, DL.atL_new2, DL.atL_old, DL.set_new, DL.set_new1, DL.set_new2, DL.set_old, DL.take_app, DL.app_app, DL.cons_app, DL.nil_app, DL.len_app1, DL.len_app2, DL.len_app3, DL.len_set, DL.seq_new, DL.seq_new1, DL.seq_new2, DL.seq_old, DL.ex_some, DL.fl_non, DL.fl_int, DL.fl_bl, DL.fl_str, DL.fl_tup, DL.fl_lst, DL.fl_obj, DL.fl_nil, DL.fl_cons, DL.fl_app, DL.fl_encP, Bool.and_self, Bool.and_true, Bool.true_and, List.set_set, ↓DL.w_yes, ↓DL.w_fld, ↓DL.w_mt, ↓DL.w_mtL, ↓DL.w_mt0, ↓DL.w_mt0L, ↓DL.w_ic, DL.isO_obj, ↓DL.w_make, ↓DL.w_b2M, ↓DL.w_b2MT, DL.c_intU, DL.c_intbU, ↓DL.w_mthL, ↓DL.w_uM, ↓DL.w_inv, ↓DL.w_bin_obj, ↓DL.w_bin_int, ↓DL.w_fldS, DL.m_fld, DL.atI_new, DL.putD, ↓DL.w_repL, ↓DL.w_isiC, ↓DL.w_par3, ↓DL.wPar3_3, DL.m_count, DL.wretL_new, DL.wret_new, ↓DL.c_setSort, DL.o_addI, DL.o_inS, DL.o_ninS, ↓DL.c_str, ↓DL.c_intSw, ↓DL.m_ext, DL.slt_l, DL.slt_t, DL.slt_r, ↓DL.c_dm, ↓DL.c_split, ↓DL.c_join, ↓DL.c_rep, ↓DL.x_str, ↓DL.o_catRL, ↓DL.o_addRL, ↓DL.wret_tup, ↓DL.wret_lst, List.take_length, List.length_cons, List.length_nil, List.length_map, Int.cast_ofNat_Int, Bool.not_true, Bool.not_false, Int.reduceAdd, Int.reduceSub, Int.reduceMul, Int.reduceNeg, Int.reduceEq, Int.reduceLT, Int.reduceLE, Nat.reduceAdd, Nat.reduceSub, eq_self, not_true_eq_false, not_false_eq_true, false_implies, implies_true, true_implies, ff_Profile_own_cold, ff_Profile_own_pieces, fm_Profile_pieces, fm_Profile_accesses, fm_Profile_cold, isf_Profile_Profile, isf_Profile_0s, isf_Profile_0i, isf_Profile_0l, isf_Profile_0t, isf_Profile_0n, isf_Profile_0b, isf_Profile_0d])
section
variable {S R : Cells} {E : Xc → Cells → Prop} {Q : D → Cells → Prop} {QL : List D → Cells → Prop}
theorem asc_later : ∀ {lo : Int} {A : List MP.T} {p : MP.T} {r : List MP.T}, MP.Asc lo (A ++ p :: r) → MP.Asc (p.2.1 + 1) r
  | _, [], _, _, h => h.2.2.2
  | _, _ :: A, _, _, h => asc_later (A := A) h.2.2.2
theorem cnt_merge {a b o e : Int} {R : List MP.T} (h1 : a ≤ b) (h2 : b + 1 ≤ e) (d : Int) : MP.cnt (R ++ [(a, e, o)]) d = MP.cnt (R ++ [(a, b, o)]) d + MP.cnt [(b + 1, e, o)] d := by
  rw [MP.cnt_app, MP.cnt_app]
  simp only [MP.cnt_cons, MP.cnt_nil, MP.inT_iff]
  (repeat' split) <;> omega
theorem joinedL_ok {F : List MP.T} (ha : MP.Asc 1 F) (hb : ∀ p ∈ F, p.2.1 < 10 ^ 80 ∧ p.2.2 < 10 ^ 80) (hz : F.length ≤ 10000) : g__law_joined [.lst (F.map encT)] S = .ok ((MP.fin F).map encT) S := by
  have zz := z24
  refine wp_ok ?_
  push_cast [g__law_joined, B__law_joined]
  refine for_st (σ := List MP.T × List MP.T × Option D × Option D × Option D) encT (fun s => [some (.lst (F.map encT)), some (.ref S.length), s.2.2.1, s.2.2.2.1, s.2.2.2.2]) (fun s => S ++ [⟨true, .lst (s.2.1.map encT)⟩])
    (fun s r => F = s.1 ++ r ∧ MP.Canon 1 s.2.1 ∧ (∀ d, MP.cnt s.2.1 d = MP.cnt s.1 d) ∧ (∀ q ∈ s.2.1, q.2.1 < 10 ^ 80 ∧ q.2.2 < 10 ^ 80 ∧ ∀ p ∈ r, q.2.1 < p.1) ∧ s.2.1.length ≤ s.1.length) F ([], [], none, none, none) ⟨rfl, trivial, fun _ => rfl, fun q hq => by simp at hq, Nat.le_refl _⟩ ?_ ?_
  · rintro ⟨A, R, x2, x3, x4⟩ p r ⟨e, hc, hn, hq, hl⟩
    simp only at e hc hn hq hl
    have hp := ha.mem p (by rw [e]; simp)
    have hpb := hb p (by rw [e]; simp)
    have hr : ∀ q ∈ r, p.2.1 < q.1 := fun q hq => by
      rw [e] at ha
      have := (asc_later ha).mem q hq
      omega
    have hlen : F.length = A.length + (r.length + 1) := by rw [e, List.length_append, List.length_cons]
    have hcell : (S ++ [⟨true, .lst (R.map encT)⟩] : Cells)[S.length]? = some ⟨true, .lst (R.map encT)⟩ := by simp
    have hgd : Gd 2 (.lst (R.map encT)) := gd_pieces fun q hq' => by
      have h1 := hc.asc.mem q hq'
      have h2 := hq q hq'
      omega
    have hne := dNe_ref hcell hgd
    have fin : ∀ R2 : List MP.T, MP.Canon 1 R2 → (∀ d, MP.cnt R2 d = MP.cnt (A ++ [p]) d) → (∀ q ∈ R2, q.2.1 < 10 ^ 80 ∧ q.2.2 < 10 ^ 80 ∧ ∀ p ∈ r, q.2.1 < p.1) → R2.length ≤ A.length + 1 → ∀ (y : List D) y2 y3 y4, y = R2.map encT → ∃ s' : List MP.T × List MP.T × Option D × Option D × Option D, [some (D.lst (F.map encT)), some (.ref S.length), y2, y3, y4] = [some (D.lst (F.map encT)), some (.ref S.length), s'.2.2.1, s'.2.2.2.1, s'.2.2.2.2] ∧ S ++ [⟨true, .lst y⟩] = S ++ [⟨true, .lst (s'.2.1.map encT)⟩] ∧ F = s'.1 ++ r ∧ MP.Canon 1 s'.2.1 ∧ (∀ d, MP.cnt s'.2.1 d = MP.cnt s'.1 d) ∧ (∀ q ∈ s'.2.1, q.2.1 < 10 ^ 80 ∧ q.2.2 < 10 ^ 80 ∧ ∀ p ∈ r, q.2.1 < p.1) ∧ s'.2.1.length ≤ s'.1.length := fun R2 h1 h2 h3 h4 y y2 y3 y4 hy =>
      ⟨(A ++ [p], R2, y2, y3, y4), rfl, by rw [hy], by rw [e, List.append_assoc]; rfl, h1, h2, h3, by simpa using h4⟩
    have app : (∀ s, R.getLast? = some s → p.1 = s.2.1 + 1 → p.2.2 ≠ s.2.2) → _ := fun hs => fin (R ++ [p]) (MP.canon_snoc hc (fun q hq' => (hq q hq').2.2 p List.mem_cons_self) hp.1 hp.2.1 hp.2.2 hs) (fun d => by rw [MP.cnt_app, MP.cnt_app, hn]) (fun q hq' => by
        rcases List.mem_append.mp hq' with h | h
        · have := hq q h
          exact ⟨this.1, this.2.1, fun y hy => this.2.2 y (List.mem_cons_of_mem _ hy)⟩
        · rw [List.mem_singleton] at h
          subst h
          exact ⟨hpb.1, hpb.2, hr⟩) (by simp; omega) (R.map encT ++ [.tup [.int p.1, .int p.2.1, .int p.2.2]]) (some (.int p.1)) (some (.int p.2.1)) (some (.int p.2.2)) (by rw [List.map_append]; rfl)
    have hlen2 : R.length < sizeLine := by omega
    rcases List.eq_nil_or_concat R with eR | ⟨R', s, eR⟩
    · have hne : dNe (.ref S.length) (.lst []) (S ++ [⟨true, .lst (R.map encT)⟩]) = some (.bl false) := by rw [hne, eR]; rfl
      push_cast [L1__law_joined, encT, hne]
      exact ⟨hlen2, app fun s hs => by rw [eR] at hs; cases hs⟩
    · have hne : dNe (.ref S.length) (.lst []) (S ++ [⟨true, .lst (R.map encT)⟩]) = some (.bl true) := by rw [hne, eR]; simp
      rw [List.concat_eq_append] at eR
      subst eR
      have hlast : ∀ y, (R' ++ [s]).getLast? = some y → y = s := fun y hy => by
        rw [List.getLast?_concat] at hy
        cases hy
        rfl
      have hsm := hc.asc.mem s (by simp)
      have hsq := (hq s (by simp)).2.2 p List.mem_cons_self
      push_cast [L1__law_joined, encT, hne, at_last]
      refine ⟨fun q1 => ⟨fun q2 => ⟨R'.length, by rw [List.length_append]; exact ixn_last _, ?_⟩, fun q2 => ⟨hlen2, app fun y hy _ => by rw [hlast y hy]; exact fun z => q2 z.symm⟩⟩, fun q1 => ⟨hlen2, app fun y hy q => absurd (show s.2.1 = p.1 - 1 by rw [hlast y hy] at q; omega) q1⟩⟩
      have es : s = (s.1, p.1 - 1, p.2.2) := Prod.ext rfl (Prod.ext q1 q2)
      have hc' : MP.Canon 1 (R' ++ [(s.1, s.2.1, s.2.2)]) := hc
      refine fin (R' ++ [(s.1, p.2.1, s.2.2)]) (MP.canon_ext hc' (by omega)) (fun d => ?_) (fun q hq' => ?_) (by simp only [List.length_append, List.length_singleton] at hl ⊢; omega) _ _ _ _ ?_
      · rw [cnt_merge (b := s.2.1) (by omega) (by omega) d, show (R' ++ [(s.1, s.2.1, s.2.2)]) = R' ++ [s] from rfl, hn d, MP.cnt_app, show (s.2.1 + 1, p.2.1, s.2.2) = p from Prod.ext (by show s.2.1 + 1 = p.1; omega) (Prod.ext rfl q2)]
      · rcases List.mem_append.mp hq' with h | h
        · have := hq q (List.mem_append_left _ h)
          exact ⟨this.1, this.2.1, fun y hy => this.2.2 y (List.mem_cons_of_mem _ hy)⟩
        · rw [List.mem_singleton] at h
          subst h
          exact ⟨hpb.1, (hq s (by simp)).2.1, hr⟩
      · rw [set_last, List.map_append, q2]
        rfl
  · rintro ⟨A, R, x2, x3, x4⟩ ⟨e, hc, hn, hq, hl⟩
    simp only [List.append_nil] at e hc hn hq hl
    subst e
    have e : R = MP.fin F := MP.canon_fin (pos_of (Int.le_refl 1) ha) hc hn
    push_cast [wretL_new]
    rw [e]
end

end K12
end
section
set_option maxHeartbeats 4000000
set_option exponentiation.threshold 3000
namespace K12
open PySem PySem.Spec L2 DL
open PyProof.Rows hiding St
open Lean in
local macro_rules | `(tactic| push_cast [$ts,*]) => `(tactic| simp only [↓DL.r0, ↓DL.r1, ↓DL.r2, ↓DL.r3, ↓DL.r4, ↓DL.r5, ↓DL.r6, ↓DL.r7, ↓DL.r8, ↓DL.r9, ↓DL.r10, ↓DL.r11, ↓DL.r12, ↓DL.r13, ↓DL.r14, ↓DL.r15, ↓DL.r16, ↓DL.r17, ↓DL.r18, ↓DL.r19, ↓DL.r20, ↓DL.r21, ↓DL.r22, ↓DL.r23, ↓DL.r24, ↓DL.r25, ↓DL.r26, ↓DL.r27, ↓DL.r28, ↓DL.r29, DL.s0, DL.s1, DL.s2, DL.s3, DL.s4, DL.s5, DL.s6, DL.s7, DL.s8, DL.s9, DL.s10, DL.s11, DL.s12, DL.s13, DL.s14, DL.s15, DL.s16, DL.s17, DL.s18, DL.s19, DL.s20, DL.s21, DL.s22, DL.s23, DL.s24, DL.s25, DL.s26, DL.s27, DL.s28, DL.s29, DL.startD_cons, DL.startD_nil, DL.startD_zero, ↓DL.w_ok, ↓DL.w_some, ↓DL.w_somec, ↓DL.w_bind, ↓DL.w_opt, ↓DL.w_chg, ↓DL.w_kon, ↓DL.w_calm, ↓DL.w_b2, ↓DL.w_b2L, ↓DL.w_b1, ↓DL.wB_bl, ↓DL.w_asB, ↓DL.w_b2T, ↓DL.w_chE, ↓DL.w_chT, ↓DL.w_not, ↓DL.w_val, ↓DL.w_notE, ↓DL.w_ifE, ↓DL.w_ifL, ↓DL.w_andM, ↓DL.w_orM, ↓DL.w_andE, ↓DL.w_orE, ↓DL.w_nil, ↓DL.w_cons, ↓DL.w_tup, ↓DL.w_lst, ↓DL.w_frz, ↓DL.w_new, ↓DL.w_cel, ↓DL.w_cb, ↓DL.w_cbL, ↓DL.w_call, ↓DL.w_callL, ↓DL.w_ar0, ↓DL.w_ar1, ↓DL.w_ar2, ↓DL.w_ar3, ↓DL.w_ar4, ↓DL.w_ar5, ↓DL.w_ar6, ↓DL.w_noO, ↓DL.w_smO, ↓DL.w_sl, ↓DL.w_slL, ↓DL.w_rev, ↓DL.w_step, ↓DL.w_isi, ↓DL.w_sets, ↓DL.w_lrg, ↓DL.w_mth, ↓DL.w_mth0, ↓DL.w_itS, ↓DL.w_itR1, ↓DL.w_itR2, ↓DL.w_itR3, ↓DL.w_itZ, ↓DL.w_itN, ↓DL.w_lc, ↓DL.w_nx, ↓DL.w_rt, ↓DL.w_seq, ↓DL.w_set, ↓DL.wPar_2, ↓DL.w_par, ↓DL.w_aug, ↓DL.w_sto, ↓DL.w_exp, ↓DL.w_ret, ↓DL.w_retN, ↓DL.w_nxS, ↓DL.w_ifS, ↓DL.w_for, ↓DL.w_asg, ↓DL.w_stk, ↓DL.w_body, ↓DL.w_bodyL, ↓DL.wret_non, ↓DL.wret_bl, ↓DL.wret_int, ↓DL.wret_str, ↓DL.wif_t, ↓DL.wif_f, ↓DL.wif_d, ↓DL.wif_n, ↓DL.wif_a, ↓DL.wif_o, DL.few0, DL.few1, DL.few2, DL.few3, DL.few4, DL.few5, DL.few6, DL.few7, DL.few8, DL.few9, DL.few10, true_and, and_true, ↓DL.a_nm, ↓DL.a_tp1, ↓DL.a_tp2, ↓DL.a_tp3, ↓DL.a_tp4, ↓DL.a_tp5, ↓DL.a_tpn, ↓DL.a_tpm, ↓DL.a_encP, DL.wipe_nil, DL.wipe_cons, DL.o_add, DL.o_sub, DL.o_neg, ↓DL.o_mul, ↓DL.o_div, ↓DL.o_mod, DL.o_pow, ↓DL.o_p10_3, ↓DL.o_p10_4, ↓DL.o_p10_6, ↓DL.o_p10_8, ↓DL.o_p10_9, ↓DL.o_p10_12, ↓DL.o_p10_15, ↓DL.o_p10_18, ↓DL.o_p10_20, ↓DL.o_p10_25, ↓DL.o_p10_26, ↓DL.o_p10_27, ↓DL.o_p10_28, ↓DL.o_p10_29, ↓DL.o_p10_30, ↓DL.o_p10_31, ↓DL.o_p10_36, ↓DL.o_p10_38, ↓DL.o_p10_40, ↓DL.o_p10_42, ↓DL.o_p10_44, ↓DL.o_p10_46, ↓DL.o_p10_48, ↓DL.o_p10_50, ↓DL.o_p10_60, ↓DL.o_p10_64, ↓DL.o_p10_70, ↓DL.o_p10_90, ↓DL.o_p10_99, ↓DL.o_p10_100, ↓DL.o_addS, ↓DL.o_addT, ↓DL.o_catL, ↓DL.o_addL, DL.o_lt, DL.o_le, DL.o_gt, DL.o_ge, DL.o_eqI, DL.o_neI, DL.o_eqS, DL.o_neS, DL.o_is, DL.o_isn, DL.n_non, DL.n_bl, DL.n_int, DL.n_str, DL.n_lst, DL.n_tup, DL.n_ref, DL.n_obj, DL.i_non_int, DL.i_non_bool, DL.i_non_str, DL.i_non_list, DL.i_non_tuple, DL.i_bl_int, DL.i_bl_bool, DL.i_bl_str, DL.i_bl_list, DL.i_bl_tuple, DL.i_int_int, DL.i_int_bool, DL.i_int_str, DL.i_int_list, DL.i_int_tuple, DL.i_str_int, DL.i_str_bool, DL.i_str_str, DL.i_str_list, DL.i_str_tuple, DL.i_lst_int, DL.i_lst_bool, DL.i_lst_str, DL.i_lst_list, DL.i_lst_tuple, DL.i_tup_int, DL.i_tup_bool, DL.i_tup_str, DL.i_tup_list, DL.i_tup_tuple, DL.t_non, DL.t_bl, DL.t_int, DL.t_lst, DL.t_tup, ↓DL.x_lst, ↓DL.x_tup, ↓DL.x_encP0, ↓DL.x_encP1, DL.ixn1_0, DL.ixn1_m1, DL.ixn2_0, DL.ixn2_1, DL.ixn2_m1, DL.ixn3_0, DL.ixn3_1, DL.ixn3_2, DL.ixn3_m1, DL.ixn4_0, DL.ixn4_1, DL.ixn4_2, DL.ixn4_3, DL.ixn4_m1, DL.ixn5_0, DL.ixn5_1, DL.ixn5_2, DL.ixn5_3, DL.ixn5_4, DL.ixn5_m1, DL.ixn6_0, DL.ixn6_1, DL.ixn6_2, DL.ixn6_3, DL.ixn6_4, DL.ixn6_5, DL.ixn6_m1, DL.ixn7_0, DL.ixn7_1, DL.ixn7_2, DL.ixn7_3, DL.ixn7_4, DL.ixn7_5, DL.ixn7_6, DL.ixn7_m1, DL.ixn8_0, DL.ixn8_1, DL.ixn8_2, DL.ixn8_3, DL.ixn8_4, DL.ixn8_5, DL.ixn8_6, DL.ixn8_7, DL.ixn8_m1, ↓DL.x1_0, ↓DL.x1_m1, ↓DL.x2_0, ↓DL.x2_1, ↓DL.x2_m1, ↓DL.x3_0, ↓DL.x3_1, ↓DL.x3_2, ↓DL.x3_m1, ↓DL.x4_0, ↓DL.x4_1, ↓DL.x4_2, ↓DL.x4_3, ↓DL.x4_m1, ↓DL.x5_0, ↓DL.x5_1, ↓DL.x5_2, ↓DL.x5_3, ↓DL.x5_4, ↓DL.x5_m1, ↓DL.x6_0, ↓DL.x6_1, ↓DL.x6_2, ↓DL.x6_3, ↓DL.x6_4, ↓DL.x6_5, ↓DL.x6_m1, ↓DL.x7_0, ↓DL.x7_1, ↓DL.x7_2, ↓DL.x7_3, ↓DL.x7_4, ↓DL.x7_5, ↓DL.x7_6, ↓DL.x7_m1, ↓DL.x8_0, ↓DL.x8_1, ↓DL.x8_2, ↓DL.x8_3, ↓DL.x8_4, ↓DL.x8_5, ↓DL.x8_6, ↓DL.x8_7, ↓DL.x8_m1, DL.c_abs, DL.c_max2, DL.c_min2, DL.c_int, DL.c_intb, DL.c_lenS, DL.c_lenT, DL.c_lenL, DL.c_listT, DL.c_listL, DL.c_tupT, DL.c_tupL, DL.c_sum, DL.c_sum0, DL.c_all, DL.c_any, DL.c_minP, DL.c_maxP, DL.c_sortP, DL.c_zip, DL.c_enum, DL.c_range1, DL.c_range2, DL.g_lst, DL.g_tup, DL.g_str, DL.p_int, DL.sq_lst, DL.sl_lst, DL.sl_tup, DL.sl_str, DL.slL_lst, DL.om_some, List.set_cons_zero, List.set_cons_succ, DL.m_tyL, DL.m_tyS, DL.m_ty, DL.m_app, DL.m_sto, DL.m_fzL, DL.m_fzI, DL.m_fzT, DL.m_fz, DL.x_ref, DL.c_lenR, DL.c_listR, DL.c_tupR, DL.sl_ref, DL.atL_new, DL.atL_new1, DL.atL_new2, DL.atL_old, DL.set_new, DL.set_new1, DL.set_new2, DL.set_old, DL.take_app, DL.app_app, DL.cons_app, DL.nil_app, DL.len_app1, DL.len_app2, DL.len_app3, DL.len_set, DL.seq_new, DL.seq_new1, DL.seq_new2, DL.seq_old, DL.ex_some, DL.fl_non, DL.fl_int, DL.fl_bl, DL.fl_str, DL.fl_tup, DL.fl_lst, DL.fl_obj, DL.fl_nil, DL.fl_cons, DL.fl_app, DL.fl_encP, Bool.and_self, Bool.and_true, Bool.true_and, List.set_set, ↓DL.w_yes, ↓DL.w_fld, ↓DL.w_mt, ↓DL.w_mtL, ↓DL.w_mt0, ↓DL.w_mt0L, ↓DL.w_ic, DL.isO_obj, ↓DL.w_make, ↓DL.w_b2M, ↓DL.w_b2MT, DL.c_intU, DL.c_intbU, ↓DL.w_mthL, ↓DL.w_uM, ↓DL.w_inv, ↓DL.w_bin_obj, ↓DL.w_bin_int, ↓DL.w_fldS, DL.m_fld, DL.atI_new, DL.putD, ↓DL.w_repL, ↓DL.w_isiC, ↓DL.w_par3, ↓DL.wPar3_3, DL.m_count, DL.wretL_new, DL.wret_new, ↓DL.c_setSort, DL.o_addI, DL.o_inS, DL.o_ninS, ↓DL.c_str, ↓DL.c_intSw, ↓DL.m_ext, DL.slt_l, DL.slt_t, DL.slt_r, ↓DL.c_dm, ↓DL.c_split, ↓DL.c_join, ↓DL.c_rep, ↓DL.x_str, ↓DL.o_catRL, ↓DL.o_addRL, ↓DL.wret_tup, ↓DL.wret_lst, List.take_length, List.length_cons, List.length_nil, List.length_map, Int.cast_ofNat_Int, Bool.not_true, Bool.not_false, Int.reduceAdd, Int.reduceSub, Int.reduceMul, Int.reduceNeg, Int.reduceEq, Int.reduceLT, Int.reduceLE, Nat.reduceAdd, Nat.reduceSub, eq_self, not_true_eq_false, not_false_eq_true, false_implies, implies_true, true_implies, ff_Profile_own_cold, ff_Profile_own_pieces, fm_Profile_pieces, fm_Profile_accesses, fm_Profile_cold, isf_Profile_Profile, isf_Profile_0s, isf_Profile_0i, isf_Profile_0l, isf_Profile_0t, isf_Profile_0n, isf_Profile_0b, isf_Profile_0d, $ts,*])
open Lean in
local macro_rules | `(tactic| push_cast) => `(tactic| simp only [↓DL.r0, ↓DL.r1, ↓DL.r2, ↓DL.r3, ↓DL.r4, ↓DL.r5, ↓DL.r6, ↓DL.r7, ↓DL.r8, ↓DL.r9, ↓DL.r10, ↓DL.r11, ↓DL.r12, ↓DL.r13, ↓DL.r14, ↓DL.r15, ↓DL.r16, ↓DL.r17, ↓DL.r18, ↓DL.r19, ↓DL.r20, ↓DL.r21, ↓DL.r22, ↓DL.r23, ↓DL.r24, ↓DL.r25, ↓DL.r26, ↓DL.r27, ↓DL.r28, ↓DL.r29, DL.s0, DL.s1, DL.s2, DL.s3, DL.s4, DL.s5, DL.s6, DL.s7, DL.s8, DL.s9, DL.s10, DL.s11, DL.s12, DL.s13, DL.s14, DL.s15, DL.s16, DL.s17, DL.s18, DL.s19, DL.s20, DL.s21, DL.s22, DL.s23, DL.s24, DL.s25, DL.s26, DL.s27, DL.s28, DL.s29, DL.startD_cons, DL.startD_nil, DL.startD_zero, ↓DL.w_ok, ↓DL.w_some, ↓DL.w_somec, ↓DL.w_bind, ↓DL.w_opt, ↓DL.w_chg, ↓DL.w_kon, ↓DL.w_calm, ↓DL.w_b2, ↓DL.w_b2L, ↓DL.w_b1, ↓DL.wB_bl, ↓DL.w_asB, ↓DL.w_b2T, ↓DL.w_chE, ↓DL.w_chT, ↓DL.w_not, ↓DL.w_val, ↓DL.w_notE, ↓DL.w_ifE, ↓DL.w_ifL, ↓DL.w_andM, ↓DL.w_orM, ↓DL.w_andE, ↓DL.w_orE, ↓DL.w_nil, ↓DL.w_cons, ↓DL.w_tup, ↓DL.w_lst, ↓DL.w_frz, ↓DL.w_new, ↓DL.w_cel, ↓DL.w_cb, ↓DL.w_cbL, ↓DL.w_call, ↓DL.w_callL, ↓DL.w_ar0, ↓DL.w_ar1, ↓DL.w_ar2, ↓DL.w_ar3, ↓DL.w_ar4, ↓DL.w_ar5, ↓DL.w_ar6, ↓DL.w_noO, ↓DL.w_smO, ↓DL.w_sl, ↓DL.w_slL, ↓DL.w_rev, ↓DL.w_step, ↓DL.w_isi, ↓DL.w_sets, ↓DL.w_lrg, ↓DL.w_mth, ↓DL.w_mth0, ↓DL.w_itS, ↓DL.w_itR1, ↓DL.w_itR2, ↓DL.w_itR3, ↓DL.w_itZ, ↓DL.w_itN, ↓DL.w_lc, ↓DL.w_nx, ↓DL.w_rt, ↓DL.w_seq, ↓DL.w_set, ↓DL.wPar_2, ↓DL.w_par, ↓DL.w_aug, ↓DL.w_sto, ↓DL.w_exp, ↓DL.w_ret, ↓DL.w_retN, ↓DL.w_nxS, ↓DL.w_ifS, ↓DL.w_for, ↓DL.w_asg, ↓DL.w_stk, ↓DL.w_body, ↓DL.w_bodyL, ↓DL.wret_non, ↓DL.wret_bl, ↓DL.wret_int, ↓DL.wret_str, ↓DL.wif_t, ↓DL.wif_f, ↓DL.wif_d, ↓DL.wif_n, ↓DL.wif_a, ↓DL.wif_o, DL.few0, DL.few1, DL.few2, DL.few3, DL.few4, DL.few5, DL.few6, DL.few7, DL.few8, DL.few9, DL.few10, true_and, and_true, ↓DL.a_nm, ↓DL.a_tp1, ↓DL.a_tp2, ↓DL.a_tp3, ↓DL.a_tp4, ↓DL.a_tp5, ↓DL.a_tpn, ↓DL.a_tpm, ↓DL.a_encP, DL.wipe_nil, DL.wipe_cons, DL.o_add, DL.o_sub, DL.o_neg, ↓DL.o_mul, ↓DL.o_div, ↓DL.o_mod, DL.o_pow, ↓DL.o_p10_3, ↓DL.o_p10_4, ↓DL.o_p10_6, ↓DL.o_p10_8, ↓DL.o_p10_9, ↓DL.o_p10_12, ↓DL.o_p10_15, ↓DL.o_p10_18, ↓DL.o_p10_20, ↓DL.o_p10_25, ↓DL.o_p10_26, ↓DL.o_p10_27, ↓DL.o_p10_28, ↓DL.o_p10_29, ↓DL.o_p10_30, ↓DL.o_p10_31, ↓DL.o_p10_36, ↓DL.o_p10_38, ↓DL.o_p10_40, ↓DL.o_p10_42, ↓DL.o_p10_44, ↓DL.o_p10_46, ↓DL.o_p10_48, ↓DL.o_p10_50, ↓DL.o_p10_60, ↓DL.o_p10_64, ↓DL.o_p10_70, ↓DL.o_p10_90, ↓DL.o_p10_99, ↓DL.o_p10_100, ↓DL.o_addS, ↓DL.o_addT, ↓DL.o_catL, ↓DL.o_addL, DL.o_lt, DL.o_le, DL.o_gt, DL.o_ge, DL.o_eqI, DL.o_neI, DL.o_eqS, DL.o_neS, DL.o_is, DL.o_isn, DL.n_non, DL.n_bl, DL.n_int, DL.n_str, DL.n_lst, DL.n_tup, DL.n_ref, DL.n_obj, DL.i_non_int, DL.i_non_bool, DL.i_non_str, DL.i_non_list, DL.i_non_tuple, DL.i_bl_int, DL.i_bl_bool, DL.i_bl_str, DL.i_bl_list, DL.i_bl_tuple, DL.i_int_int, DL.i_int_bool, DL.i_int_str, DL.i_int_list, DL.i_int_tuple, DL.i_str_int, DL.i_str_bool, DL.i_str_str, DL.i_str_list, DL.i_str_tuple, DL.i_lst_int, DL.i_lst_bool, DL.i_lst_str, DL.i_lst_list, DL.i_lst_tuple, DL.i_tup_int, DL.i_tup_bool, DL.i_tup_str, DL.i_tup_list, DL.i_tup_tuple, DL.t_non, DL.t_bl, DL.t_int, DL.t_lst, DL.t_tup, ↓DL.x_lst, ↓DL.x_tup, ↓DL.x_encP0, ↓DL.x_encP1, DL.ixn1_0, DL.ixn1_m1, DL.ixn2_0, DL.ixn2_1, DL.ixn2_m1, DL.ixn3_0, DL.ixn3_1, DL.ixn3_2, DL.ixn3_m1, DL.ixn4_0, DL.ixn4_1, DL.ixn4_2, DL.ixn4_3, DL.ixn4_m1, DL.ixn5_0, DL.ixn5_1, DL.ixn5_2, DL.ixn5_3, DL.ixn5_4, DL.ixn5_m1, DL.ixn6_0, DL.ixn6_1, DL.ixn6_2, DL.ixn6_3, DL.ixn6_4, DL.ixn6_5, DL.ixn6_m1, DL.ixn7_0, DL.ixn7_1, DL.ixn7_2, DL.ixn7_3, DL.ixn7_4, DL.ixn7_5, DL.ixn7_6, DL.ixn7_m1, DL.ixn8_0, DL.ixn8_1, DL.ixn8_2, DL.ixn8_3, DL.ixn8_4, DL.ixn8_5, DL.ixn8_6, DL.ixn8_7, DL.ixn8_m1, ↓DL.x1_0, ↓DL.x1_m1, ↓DL.x2_0, ↓DL.x2_1, ↓DL.x2_m1, ↓DL.x3_0, ↓DL.x3_1, ↓DL.x3_2, ↓DL.x3_m1, ↓DL.x4_0, ↓DL.x4_1, ↓DL.x4_2, ↓DL.x4_3, ↓DL.x4_m1, ↓DL.x5_0, ↓DL.x5_1, ↓DL.x5_2, ↓DL.x5_3, ↓DL.x5_4, ↓DL.x5_m1, ↓DL.x6_0, ↓DL.x6_1, ↓DL.x6_2, ↓DL.x6_3, ↓DL.x6_4, ↓DL.x6_5, ↓DL.x6_m1, ↓DL.x7_0, ↓DL.x7_1, ↓DL.x7_2, ↓DL.x7_3, ↓DL.x7_4, ↓DL.x7_5, ↓DL.x7_6, ↓DL.x7_m1, ↓DL.x8_0, ↓DL.x8_1, ↓DL.x8_2, ↓DL.x8_3, ↓DL.x8_4, ↓DL.x8_5, ↓DL.x8_6, ↓DL.x8_7, ↓DL.x8_m1, DL.c_abs, DL.c_max2, DL.c_min2, DL.c_int, DL.c_intb, DL.c_lenS, DL.c_lenT, DL.c_lenL, DL.c_listT, DL.c_listL, DL.c_tupT, DL.c_tupL, DL.c_sum, DL.c_sum0, DL.c_all, DL.c_any, DL.c_minP, DL.c_maxP, DL.c_sortP, DL.c_zip, DL.c_enum, DL.c_range1, DL.c_range2, DL.g_lst, DL.g_tup, DL.g_str, DL.p_int, DL.sq_lst, DL.sl_lst, DL.sl_tup, DL.sl_str, DL.slL_lst, DL.om_some, List.set_cons_zero, List.set_cons_succ, DL.m_tyL, DL.m_tyS, DL.m_ty, DL.m_app, DL.m_sto, DL.m_fzL, DL.m_fzI, DL.m_fzT, DL.m_fz, DL.x_ref, DL.c_lenR, DL.c_listR, DL.c_tupR, DL.sl_ref, DL.atL_new, DL.atL_new1, DL.atL_new2, DL.atL_old, DL.set_new, DL.set_new1, DL.set_new2, DL.set_old, DL.take_app, DL.app_app, DL.cons_app, DL.nil_app, DL.len_app1, DL.len_app2, DL.len_app3, DL.len_set, DL.seq_new, DL.seq_new1, DL.seq_new2, DL.seq_old, DL.ex_some, DL.fl_non, DL.fl_int, DL.fl_bl, DL.fl_str, DL.fl_tup, DL.fl_lst, DL.fl_obj, DL.fl_nil, DL.fl_cons, DL.fl_app, DL.fl_encP, Bool.and_self, Bool.and_true, Bool.true_and, List.set_set, ↓DL.w_yes, ↓DL.w_fld, ↓DL.w_mt, ↓DL.w_mtL, ↓DL.w_mt0, ↓DL.w_mt0L, ↓DL.w_ic, DL.isO_obj, ↓DL.w_make, ↓DL.w_b2M, ↓DL.w_b2MT, DL.c_intU, DL.c_intbU, ↓DL.w_mthL, ↓DL.w_uM, ↓DL.w_inv, ↓DL.w_bin_obj, ↓DL.w_bin_int, ↓DL.w_fldS, DL.m_fld, DL.atI_new, DL.putD, ↓DL.w_repL, ↓DL.w_isiC, ↓DL.w_par3, ↓DL.wPar3_3, DL.m_count, DL.wretL_new, DL.wret_new, ↓DL.c_setSort, DL.o_addI, DL.o_inS, DL.o_ninS, ↓DL.c_str, ↓DL.c_intSw, ↓DL.m_ext, DL.slt_l, DL.slt_t, DL.slt_r, ↓DL.c_dm, ↓DL.c_split, ↓DL.c_join, ↓DL.c_rep, ↓DL.x_str, ↓DL.o_catRL, ↓DL.o_addRL, ↓DL.wret_tup, ↓DL.wret_lst, List.take_length, List.length_cons, List.length_nil, List.length_map, Int.cast_ofNat_Int, Bool.not_true, Bool.not_false, Int.reduceAdd, Int.reduceSub, Int.reduceMul, Int.reduceNeg, Int.reduceEq, Int.reduceLT, Int.reduceLE, Nat.reduceAdd, Nat.reduceSub, eq_self, not_true_eq_false, not_false_eq_true, false_implies, implies_true, true_implies, ff_Profile_own_cold, ff_Profile_own_pieces, fm_Profile_pieces, fm_Profile_accesses, fm_Profile_cold, isf_Profile_Profile, isf_Profile_0s, isf_Profile_0i, isf_Profile_0l, isf_Profile_0t, isf_Profile_0n, isf_Profile_0b, isf_Profile_0d])
section
variable {S R : Cells} {E : Xc → Cells → Prop} {Q : D → Cells → Prop} {QL : List D → Cells → Prop}
theorem Fr.cutT {S T T' : Cells} {n : Nat} (h : Fr S (T.take S.length) n) (g : Fr T T' n) : Fr S (T'.take S.length) n := by
  refine ⟨by have := h.len; rw [List.length_take] at this ⊢; rw [g.len]; exact this, fun j hj => ?_⟩
  have := h.oth j hj
  rw [List.getElem?_take] at this ⊢
  rw [g.oth j hj]
  exact this
theorem Fr.le {S T : Cells} {n : Nat} (h : Fr S (T.take S.length) n) : S.length ≤ T.length := by
  have := h.len
  rw [List.length_take] at this
  omega
theorem Fr.appT {S T X : Cells} {n : Nat} (h : Fr S (T.take S.length) n) : Fr S ((T ++ X).take S.length) n := by
  rw [List.take_append_of_le_length h.le]
  exact h
theorem Fr.setT {S T : Cells} {n f : Nat} {c : Cell} (h : Fr S (T.take S.length) n) (hf : S.length ≤ f) : Fr S ((T.set f c).take S.length) n := by
  rw [List.take_set_of_le hf]
  exact h
theorem Pond.setT {T : Cells} {n k f : Nat} {c : Cell} (h : Pond T n k) (hf : f ≠ n) : Pond (T.set f c) n k := by
  obtain ⟨a, b, d, e, r⟩ := h
  exact ⟨a, b, d, by rw [List.getElem?_set_ne hf]; exact e, r⟩
theorem Pond.appT {T X : Cells} {n k : Nat} (h : Pond T n k) : Pond (T ++ X) n k := by
  have := h.lt
  obtain ⟨a, b, d, e, r⟩ := h
  exact ⟨a, b, d, by rw [List.getElem?_append_left this]; exact e, r⟩
theorem Pond.cutT {T : Cells} {n k m : Nat} (h : Pond T n k) (hm : n < m) : Pond (T.take m) n k := by
  obtain ⟨a, b, d, e, r⟩ := h
  exact ⟨a, b, d, by rw [List.getElem?_take, if_pos hm]; exact e, r⟩
theorem cnt_half {a b c o : Int} (h1 : a ≤ b) (h2 : b + 1 ≤ c) (G : List MP.T) (d : Int) : MP.cnt (G ++ [(a, b, o), (b + 1, c, o)]) d = MP.cnt (G ++ [(a, c, o)]) d := by
  rw [MP.cnt_app, MP.cnt_app]
  simp only [MP.cnt_cons, MP.cnt_nil, MP.inT_iff]
  (repeat' split) <;> omega
theorem halved_wp {n k : Nat} {F : List MP.T} {b t : Int} (h : Pond S n k) (hk : k ≤ 10 ^ 11) (ha : MP.Asc 1 F) (hF0 : ∀ p ∈ F, p.2.1 ≤ b ∧ p.2.2 ≤ t) (hb : b ≤ 10 ^ 50) (hz : F.length ≤ 1000)
    (q : ∀ G S', MP.Asc 1 G → (∀ d, MP.cnt G d = MP.cnt F d) → G.length ≤ 2 * F.length → (∀ p ∈ G, p.2.1 ≤ b ∧ p.2.2 ≤ t) → Pond S' n (k + 2 * F.length) → Fr S S' n → QL (G.map encT) S') : wp (g__law_halved [.ref n, .lst (F.map encT)] S) QL E := by
  have zz := z24
  have hn := h.lt
  push_cast [g__law_halved, B__law_halved]
  refine for_st (σ := Cells × Nat × List MP.T × List MP.T × Option D × Option D × Option D × Option D) encT (fun s => [some (.ref n), some (.lst (F.map encT)), some (.ref s.2.1), s.2.2.2.2.1, s.2.2.2.2.2.1, s.2.2.2.2.2.2.1, s.2.2.2.2.2.2.2]) (fun s => s.1)
    (fun s r => F = s.2.2.1 ++ r ∧ Pond s.1 n (k + 2 * s.2.2.1.length) ∧ Fr S (s.1.take S.length) n ∧ S.length ≤ s.2.1 ∧ s.1[s.2.1]? = some ⟨true, .lst (s.2.2.2.1.map encT)⟩ ∧ MP.Asc 1 s.2.2.2.1 ∧ (∀ d, MP.cnt s.2.2.2.1 d = MP.cnt s.2.2.1 d) ∧ (∀ q ∈ s.2.2.2.1, q.2.1 ≤ b ∧ q.2.2 ≤ t ∧ ∀ p ∈ r, q.2.1 < p.1) ∧ s.2.2.2.1.length ≤ 2 * s.2.2.1.length)
    F (S ++ [⟨true, .lst []⟩], S.length, [], [], none, none, none, none) ⟨rfl, (h.mono (by simp)).appT, by rw [List.take_left']; exact Fr.refl _ _; rfl, Nat.le_refl _, by simp, trivial, fun _ => rfl, fun q hq => by simp at hq, Nat.le_refl _⟩ ?_ ?_ rfl rfl
  · rintro ⟨T, f, A, G, x3, x4, x5, x6⟩ p r ⟨e, hp, hf, hfl, hc, hG, hn2, hq, hl⟩
    simp only at e hp hf hfl hc hG hn2 hq hl
    have hpm := ha.mem p (by rw [e]; simp)
    have hpb := hF0 p (by rw [e]; simp)
    have hr : ∀ q ∈ r, p.2.1 < q.1 := fun q hq => by
      rw [e] at ha
      have := (asc_later ha).mem q hq
      omega
    have hlen : F.length = A.length + (r.length + 1) := by rw [e, List.length_append, List.length_cons]
    have hlen2 : G.length < sizeLine := by omega
    have fin : ∀ (T2 : Cells) (f2 : Nat) (G2 : List MP.T) (y : List D), Pond T2 n (k + 2 * A.length + 2) → Fr S (T2.take S.length) n → S.length ≤ f2 → T2[f2]? = some ⟨true, .lst y⟩ → y = G2.map encT → MP.Asc 1 G2 → (∀ d, MP.cnt G2 d = MP.cnt (A ++ [p]) d) → (∀ q ∈ G2, q.2.1 ≤ b ∧ q.2.2 ≤ t ∧ ∀ p ∈ r, q.2.1 < p.1) → G2.length ≤ 2 * A.length + 2 → ∀ y3 y4 y5 y6,
        ∃ s' : Cells × Nat × List MP.T × List MP.T × Option D × Option D × Option D × Option D, [some (D.ref n), some (.lst (F.map encT)), some (.ref f2), y3, y4, y5, y6] = [some (D.ref n), some (.lst (F.map encT)), some (.ref s'.2.1), s'.2.2.2.2.1, s'.2.2.2.2.2.1, s'.2.2.2.2.2.2.1, s'.2.2.2.2.2.2.2] ∧ T2 = s'.1 ∧ F = s'.2.2.1 ++ r ∧ Pond s'.1 n (k + 2 * s'.2.2.1.length) ∧ Fr S (s'.1.take S.length) n ∧ S.length ≤ s'.2.1 ∧ s'.1[s'.2.1]? = some ⟨true, .lst (s'.2.2.2.1.map encT)⟩ ∧ MP.Asc 1 s'.2.2.2.1 ∧ (∀ d, MP.cnt s'.2.2.2.1 d = MP.cnt s'.2.2.1 d) ∧ (∀ q ∈ s'.2.2.2.1, q.2.1 ≤ b ∧ q.2.2 ≤ t ∧ ∀ p ∈ r, q.2.1 < p.1) ∧ s'.2.2.2.1.length ≤ 2 * s'.2.2.1.length :=
      fun T2 f2 G2 y h1 h2 h3 h4 h5 h6 h7 h8 h9 y3 y4 y5 y6 => ⟨(T2, f2, A ++ [p], G2, y3, y4, y5, y6), rfl, rfl, by rw [e, List.append_assoc]; rfl, h1.mono (by simp; omega), h2, h3, by rw [← h5]; exact h4, h6, h7, h8, by simp; omega⟩
    have app : ∀ T2 : Cells, Pond T2 n (k + 2 * A.length + 2) → Fr S (T2.take S.length) n → T2[f]? = some ⟨true, .lst (G.map encT)⟩ → ∀ y3 y4 y5 y6, _ := fun T2 h1 h2 h3 => fin (T2.set f ⟨true, .lst (G.map encT ++ [.tup [.int p.1, .int p.2.1, .int p.2.2]])⟩) f (G ++ [p]) (G.map encT ++ [.tup [.int p.1, .int p.2.1, .int p.2.2]]) (h1.setT (by omega)) (h2.setT hfl) hfl (by rw [List.getElem?_set_self (List.getElem?_eq_some_iff.mp h3).1]) (by rw [List.map_append]; rfl)
      (asc_snoc hG (fun q hq' => (hq q hq').2.2 p List.mem_cons_self) hpm.1 hpm.2.1 hpm.2.2) (fun d => by rw [MP.cnt_app, MP.cnt_app, hn2]) (fun q hq' => by
        rcases List.mem_append.mp hq' with h | h
        · have := hq q h
          exact ⟨this.1, this.2.1, fun y hy => this.2.2 y (List.mem_cons_of_mem _ hy)⟩
        · rw [List.mem_singleton] at h
          subst h
          exact ⟨hpb.1, hpb.2, hr⟩) (by simp; omega)
    push_cast [L1__law_halved, encT]
    refine ⟨fun hlt => ?_, fun hge => ?_⟩
    · refine dip_wp0 hp (by omega) (by decide) (by decide) fun v T1 v0 v1 hp hf1 => ?_
      have hf := hf.cutT hf1
      have hc := (hf1.oth f (by omega)).trans hc
      push_cast
      refine ⟨fun hv => ?_, fun hv => ?_⟩
      · refine dip_wp0 hp (by omega) (by omega) (by omega) fun u T2 u0 u1 hp hf2 => ?_
        have hf := hf.cutT hf2
        have hc := (hf2.oth f (by omega)).trans hc
        push_cast [seq_at hc, List.length_map]
        refine ⟨by omega, fl_ts, fin (T2 ++ [⟨true, .lst (G.map encT ++ [.tup [.int p.1, .int (p.1 + u), .int p.2.2], .tup [.int (p.1 + u + 1), .int p.2.1, .int p.2.2]])⟩]) T2.length (G ++ [(p.1, p.1 + u, p.2.2), (p.1 + u + 1, p.2.1, p.2.2)]) (G.map encT ++ [.tup [.int p.1, .int (p.1 + u), .int p.2.2], .tup [.int (p.1 + u + 1), .int p.2.1, .int p.2.2]]) (hp.mono (by omega)).appT hf.appT hf.le (by simp) (by rw [List.map_append]; rfl) ?_ (fun d => ?_) (fun q hq' => ?_) (by simp only [List.length_append, List.length_cons, List.length_nil]; omega) _ _ _ _⟩
        · have g1 := asc_snoc hG (p := (p.1, p.1 + u, p.2.2)) (fun q hq' => (hq q hq').2.2 p List.mem_cons_self) hpm.1 (by show p.1 ≤ p.1 + u; omega) hpm.2.2
          have g2 := asc_snoc g1 (p := (p.1 + u + 1, p.2.1, p.2.2)) (fun q hq' => by
            show q.2.1 < p.1 + u + 1
            rcases List.mem_append.mp hq' with h | h
            · have := (hq q h).2.2 p List.mem_cons_self
              omega
            · rw [List.mem_singleton] at h
              subst h
              show p.1 + u < _
              omega) (by show 1 ≤ p.1 + u + 1; omega) (by show p.1 + u + 1 ≤ p.2.1; omega) hpm.2.2
          rwa [List.append_assoc] at g2
        · rw [cnt_half (by omega) (by omega), show (p.1, p.2.1, p.2.2) = p from rfl, MP.cnt_app, MP.cnt_app, hn2]
        · simp only [List.mem_append, List.mem_cons, List.not_mem_nil, or_false] at hq'
          rcases hq' with h | h | h
          · have := hq q h
            exact ⟨this.1, this.2.1, fun y hy => this.2.2 y (List.mem_cons_of_mem _ hy)⟩
          · subst h
            exact ⟨by show p.1 + u ≤ b; omega, hpb.2, fun y hy => by have := hr y hy; show p.1 + u < _; omega⟩
          · subst h
            exact ⟨hpb.1, hpb.2, hr⟩
      · push_cast [seq_at hc, atL_of hc, List.length_map]
        exact ⟨hlen2, app T1 (hp.mono (by omega)) hf hc _ _ _ _⟩
    · push_cast [seq_at hc, atL_of hc, List.length_map]
      exact ⟨hlen2, app T (hp.mono (by omega)) hf hc _ _ _ _⟩
  · rintro ⟨T, f, A, G, x3, x4, x5, x6⟩ ⟨e, hp, hf, hfl, hc, hG, hn2, hq, hl⟩
    simp only [List.append_nil] at e hp hf hfl hc hG hn2 hq hl
    subst e
    push_cast
    refine wretL_ref hfl hc ?_
    exact q G _ hG hn2 hl (fun p hp' => ⟨(hq p hp').1, (hq p hp').2.1⟩) (hp.cutT hn) hf
end

end K12
end
section
set_option maxHeartbeats 4000000
set_option exponentiation.threshold 3000
namespace K12
open PySem PySem.Spec L2 DL
open PyProof.Rows hiding St
open Lean in
local macro_rules | `(tactic| push_cast [$ts,*]) => `(tactic| simp only [↓DL.r0, ↓DL.r1, ↓DL.r2, ↓DL.r3, ↓DL.r4, ↓DL.r5, ↓DL.r6, ↓DL.r7, ↓DL.r8, ↓DL.r9, ↓DL.r10, ↓DL.r11, ↓DL.r12, ↓DL.r13, ↓DL.r14, ↓DL.r15, ↓DL.r16, ↓DL.r17, ↓DL.r18, ↓DL.r19, ↓DL.r20, ↓DL.r21, ↓DL.r22, ↓DL.r23, ↓DL.r24, ↓DL.r25, ↓DL.r26, ↓DL.r27, ↓DL.r28, ↓DL.r29, DL.s0, DL.s1, DL.s2, DL.s3, DL.s4, DL.s5, DL.s6, DL.s7, DL.s8, DL.s9, DL.s10, DL.s11, DL.s12, DL.s13, DL.s14, DL.s15, DL.s16, DL.s17, DL.s18, DL.s19, DL.s20, DL.s21, DL.s22, DL.s23, DL.s24, DL.s25, DL.s26, DL.s27, DL.s28, DL.s29, DL.startD_cons, DL.startD_nil, DL.startD_zero, ↓DL.w_ok, ↓DL.w_some, ↓DL.w_somec, ↓DL.w_bind, ↓DL.w_opt, ↓DL.w_chg, ↓DL.w_kon, ↓DL.w_calm, ↓DL.w_b2, ↓DL.w_b2L, ↓DL.w_b1, ↓DL.wB_bl, ↓DL.w_asB, ↓DL.w_b2T, ↓DL.w_chE, ↓DL.w_chT, ↓DL.w_not, ↓DL.w_val, ↓DL.w_notE, ↓DL.w_ifE, ↓DL.w_ifL, ↓DL.w_andM, ↓DL.w_orM, ↓DL.w_andE, ↓DL.w_orE, ↓DL.w_nil, ↓DL.w_cons, ↓DL.w_tup, ↓DL.w_lst, ↓DL.w_frz, ↓DL.w_new, ↓DL.w_cel, ↓DL.w_cb, ↓DL.w_cbL, ↓DL.w_call, ↓DL.w_callL, ↓DL.w_ar0, ↓DL.w_ar1, ↓DL.w_ar2, ↓DL.w_ar3, ↓DL.w_ar4, ↓DL.w_ar5, ↓DL.w_ar6, ↓DL.w_noO, ↓DL.w_smO, ↓DL.w_sl, ↓DL.w_slL, ↓DL.w_rev, ↓DL.w_step, ↓DL.w_isi, ↓DL.w_sets, ↓DL.w_lrg, ↓DL.w_mth, ↓DL.w_mth0, ↓DL.w_itS, ↓DL.w_itR1, ↓DL.w_itR2, ↓DL.w_itR3, ↓DL.w_itZ, ↓DL.w_itN, ↓DL.w_lc, ↓DL.w_nx, ↓DL.w_rt, ↓DL.w_seq, ↓DL.w_set, ↓DL.wPar_2, ↓DL.w_par, ↓DL.w_aug, ↓DL.w_sto, ↓DL.w_exp, ↓DL.w_ret, ↓DL.w_retN, ↓DL.w_nxS, ↓DL.w_ifS, ↓DL.w_for, ↓DL.w_asg, ↓DL.w_stk, ↓DL.w_body, ↓DL.w_bodyL, ↓DL.wret_non, ↓DL.wret_bl, ↓DL.wret_int, ↓DL.wret_str, ↓DL.wif_t, ↓DL.wif_f, ↓DL.wif_d, ↓DL.wif_n, ↓DL.wif_a, ↓DL.wif_o, DL.few0, DL.few1, DL.few2, DL.few3, DL.few4, DL.few5, DL.few6, DL.few7, DL.few8, DL.few9, DL.few10, true_and, and_true, ↓DL.a_nm, ↓DL.a_tp1, ↓DL.a_tp2, ↓DL.a_tp3, ↓DL.a_tp4, ↓DL.a_tp5, ↓DL.a_tpn, ↓DL.a_tpm, ↓DL.a_encP, DL.wipe_nil, DL.wipe_cons, DL.o_add, DL.o_sub, DL.o_neg, ↓DL.o_mul, ↓DL.o_div, ↓DL.o_mod, DL.o_pow, ↓DL.o_p10_3, ↓DL.o_p10_4, ↓DL.o_p10_6, ↓DL.o_p10_8, ↓DL.o_p10_9, ↓DL.o_p10_12, ↓DL.o_p10_15, ↓DL.o_p10_18, ↓DL.o_p10_20, ↓DL.o_p10_25, ↓DL.o_p10_26, ↓DL.o_p10_27, ↓DL.o_p10_28, ↓DL.o_p10_29, ↓DL.o_p10_30, ↓DL.o_p10_31, ↓DL.o_p10_36, ↓DL.o_p10_38, ↓DL.o_p10_40, ↓DL.o_p10_42, ↓DL.o_p10_44, ↓DL.o_p10_46, ↓DL.o_p10_48, ↓DL.o_p10_50, ↓DL.o_p10_60, ↓DL.o_p10_64, ↓DL.o_p10_70, ↓DL.o_p10_90, ↓DL.o_p10_99, ↓DL.o_p10_100, ↓DL.o_addS, ↓DL.o_addT, ↓DL.o_catL, ↓DL.o_addL, DL.o_lt, DL.o_le, DL.o_gt, DL.o_ge, DL.o_eqI, DL.o_neI, DL.o_eqS, DL.o_neS, DL.o_is, DL.o_isn, DL.n_non, DL.n_bl, DL.n_int, DL.n_str, DL.n_lst, DL.n_tup, DL.n_ref, DL.n_obj, DL.i_non_int, DL.i_non_bool, DL.i_non_str, DL.i_non_list, DL.i_non_tuple, DL.i_bl_int, DL.i_bl_bool, DL.i_bl_str, DL.i_bl_list, DL.i_bl_tuple, DL.i_int_int, DL.i_int_bool, DL.i_int_str, DL.i_int_list, DL.i_int_tuple, DL.i_str_int, DL.i_str_bool, DL.i_str_str, DL.i_str_list, DL.i_str_tuple, DL.i_lst_int, DL.i_lst_bool, DL.i_lst_str, DL.i_lst_list, DL.i_lst_tuple, DL.i_tup_int, DL.i_tup_bool, DL.i_tup_str, DL.i_tup_list, DL.i_tup_tuple, DL.t_non, DL.t_bl, DL.t_int, DL.t_lst, DL.t_tup, ↓DL.x_lst, ↓DL.x_tup, ↓DL.x_encP0, ↓DL.x_encP1, DL.ixn1_0, DL.ixn1_m1, DL.ixn2_0, DL.ixn2_1, DL.ixn2_m1, DL.ixn3_0, DL.ixn3_1, DL.ixn3_2, DL.ixn3_m1, DL.ixn4_0, DL.ixn4_1, DL.ixn4_2, DL.ixn4_3, DL.ixn4_m1, DL.ixn5_0, DL.ixn5_1, DL.ixn5_2, DL.ixn5_3, DL.ixn5_4, DL.ixn5_m1, DL.ixn6_0, DL.ixn6_1, DL.ixn6_2, DL.ixn6_3, DL.ixn6_4, DL.ixn6_5, DL.ixn6_m1, DL.ixn7_0, DL.ixn7_1, DL.ixn7_2, DL.ixn7_3, DL.ixn7_4, DL.ixn7_5, DL.ixn7_6, DL.ixn7_m1, DL.ixn8_0, DL.ixn8_1, DL.ixn8_2, DL.ixn8_3, DL.ixn8_4, DL.ixn8_5, DL.ixn8_6, DL.ixn8_7, DL.ixn8_m1, ↓DL.x1_0, ↓DL.x1_m1, ↓DL.x2_0, ↓DL.x2_1, ↓DL.x2_m1, ↓DL.x3_0, ↓DL.x3_1, ↓DL.x3_2, ↓DL.x3_m1, ↓DL.x4_0, ↓DL.x4_1, ↓DL.x4_2, ↓DL.x4_3, ↓DL.x4_m1, ↓DL.x5_0, ↓DL.x5_1, ↓DL.x5_2, ↓DL.x5_3, ↓DL.x5_4, ↓DL.x5_m1, ↓DL.x6_0, ↓DL.x6_1, ↓DL.x6_2, ↓DL.x6_3, ↓DL.x6_4, ↓DL.x6_5, ↓DL.x6_m1, ↓DL.x7_0, ↓DL.x7_1, ↓DL.x7_2, ↓DL.x7_3, ↓DL.x7_4, ↓DL.x7_5, ↓DL.x7_6, ↓DL.x7_m1, ↓DL.x8_0, ↓DL.x8_1, ↓DL.x8_2, ↓DL.x8_3, ↓DL.x8_4, ↓DL.x8_5, ↓DL.x8_6, ↓DL.x8_7, ↓DL.x8_m1, DL.c_abs, DL.c_max2, DL.c_min2, DL.c_int, DL.c_intb, DL.c_lenS, DL.c_lenT, DL.c_lenL, DL.c_listT, DL.c_listL, DL.c_tupT, DL.c_tupL, DL.c_sum, DL.c_sum0, DL.c_all, DL.c_any, DL.c_minP, DL.c_maxP, DL.c_sortP, DL.c_zip, DL.c_enum, DL.c_range1, DL.c_range2, DL.g_lst, DL.g_tup, DL.g_str, DL.p_int, DL.sq_lst, DL.sl_lst, DL.sl_tup, DL.sl_str, DL.slL_lst, DL.om_some, List.set_cons_zero, List.set_cons_succ, DL.m_tyL, DL.m_tyS, DL.m_ty, DL.m_app, DL.m_sto, DL.m_fzL, DL.m_fzI, DL.m_fzT, DL.m_fz, DL.x_ref, DL.c_lenR, DL.c_listR, DL.c_tupR, DL.sl_ref, DL.atL_new, DL.atL_new1, DL.atL_new2, DL.atL_old, DL.set_new, DL.set_new1, DL.set_new2, DL.set_old, DL.take_app, DL.app_app, DL.cons_app, DL.nil_app, DL.len_app1, DL.len_app2, DL.len_app3, DL.len_set, DL.seq_new, DL.seq_new1, DL.seq_new2, DL.seq_old, DL.ex_some, DL.fl_non, DL.fl_int, DL.fl_bl, DL.fl_str, DL.fl_tup, DL.fl_lst, DL.fl_obj, DL.fl_nil, DL.fl_cons, DL.fl_app, DL.fl_encP, Bool.and_self, Bool.and_true, Bool.true_and, List.set_set, ↓DL.w_yes, ↓DL.w_fld, ↓DL.w_mt, ↓DL.w_mtL, ↓DL.w_mt0, ↓DL.w_mt0L, ↓DL.w_ic, DL.isO_obj, ↓DL.w_make, ↓DL.w_b2M, ↓DL.w_b2MT, DL.c_intU, DL.c_intbU, ↓DL.w_mthL, ↓DL.w_uM, ↓DL.w_inv, ↓DL.w_bin_obj, ↓DL.w_bin_int, ↓DL.w_fldS, DL.m_fld, DL.atI_new, DL.putD, ↓DL.w_repL, ↓DL.w_isiC, ↓DL.w_par3, ↓DL.wPar3_3, DL.m_count, DL.wretL_new, DL.wret_new, ↓DL.c_setSort, DL.o_addI, DL.o_inS, DL.o_ninS, ↓DL.c_str, ↓DL.c_intSw, ↓DL.m_ext, DL.slt_l, DL.slt_t, DL.slt_r, ↓DL.c_dm, ↓DL.c_split, ↓DL.c_join, ↓DL.c_rep, ↓DL.x_str, ↓DL.o_catRL, ↓DL.o_addRL, ↓DL.wret_tup, ↓DL.wret_lst, List.take_length, List.length_cons, List.length_nil, List.length_map, Int.cast_ofNat_Int, Bool.not_true, Bool.not_false, Int.reduceAdd, Int.reduceSub, Int.reduceMul, Int.reduceNeg, Int.reduceEq, Int.reduceLT, Int.reduceLE, Nat.reduceAdd, Nat.reduceSub, eq_self, not_true_eq_false, not_false_eq_true, false_implies, implies_true, true_implies, ff_Profile_own_cold, ff_Profile_own_pieces, fm_Profile_pieces, fm_Profile_accesses, fm_Profile_cold, isf_Profile_Profile, isf_Profile_0s, isf_Profile_0i, isf_Profile_0l, isf_Profile_0t, isf_Profile_0n, isf_Profile_0b, isf_Profile_0d, $ts,*])
open Lean in
local macro_rules | `(tactic| push_cast) => `(tactic| simp only [↓DL.r0, ↓DL.r1, ↓DL.r2, ↓DL.r3, ↓DL.r4, ↓DL.r5, ↓DL.r6, ↓DL.r7, ↓DL.r8, ↓DL.r9, ↓DL.r10, ↓DL.r11, ↓DL.r12, ↓DL.r13, ↓DL.r14, ↓DL.r15, ↓DL.r16, ↓DL.r17, ↓DL.r18, ↓DL.r19, ↓DL.r20, ↓DL.r21, ↓DL.r22, ↓DL.r23, ↓DL.r24, ↓DL.r25, ↓DL.r26, ↓DL.r27, ↓DL.r28, ↓DL.r29, DL.s0, DL.s1, DL.s2, DL.s3, DL.s4, DL.s5, DL.s6, DL.s7, DL.s8, DL.s9, DL.s10, DL.s11, DL.s12, DL.s13, DL.s14, DL.s15, DL.s16, DL.s17, DL.s18, DL.s19, DL.s20, DL.s21, DL.s22, DL.s23, DL.s24, DL.s25, DL.s26, DL.s27, DL.s28, DL.s29, DL.startD_cons, DL.startD_nil, DL.startD_zero, ↓DL.w_ok, ↓DL.w_some, ↓DL.w_somec, ↓DL.w_bind, ↓DL.w_opt, ↓DL.w_chg, ↓DL.w_kon, ↓DL.w_calm, ↓DL.w_b2, ↓DL.w_b2L, ↓DL.w_b1, ↓DL.wB_bl, ↓DL.w_asB, ↓DL.w_b2T, ↓DL.w_chE, ↓DL.w_chT, ↓DL.w_not, ↓DL.w_val, ↓DL.w_notE, ↓DL.w_ifE, ↓DL.w_ifL, ↓DL.w_andM, ↓DL.w_orM, ↓DL.w_andE, ↓DL.w_orE, ↓DL.w_nil, ↓DL.w_cons, ↓DL.w_tup, ↓DL.w_lst, ↓DL.w_frz, ↓DL.w_new, ↓DL.w_cel, ↓DL.w_cb, ↓DL.w_cbL, ↓DL.w_call, ↓DL.w_callL, ↓DL.w_ar0, ↓DL.w_ar1, ↓DL.w_ar2, ↓DL.w_ar3, ↓DL.w_ar4, ↓DL.w_ar5, ↓DL.w_ar6, ↓DL.w_noO, ↓DL.w_smO, ↓DL.w_sl, ↓DL.w_slL, ↓DL.w_rev, ↓DL.w_step, ↓DL.w_isi, ↓DL.w_sets, ↓DL.w_lrg, ↓DL.w_mth, ↓DL.w_mth0, ↓DL.w_itS, ↓DL.w_itR1, ↓DL.w_itR2, ↓DL.w_itR3, ↓DL.w_itZ, ↓DL.w_itN, ↓DL.w_lc, ↓DL.w_nx, ↓DL.w_rt, ↓DL.w_seq, ↓DL.w_set, ↓DL.wPar_2, ↓DL.w_par, ↓DL.w_aug, ↓DL.w_sto, ↓DL.w_exp, ↓DL.w_ret, ↓DL.w_retN, ↓DL.w_nxS, ↓DL.w_ifS, ↓DL.w_for, ↓DL.w_asg, ↓DL.w_stk, ↓DL.w_body, ↓DL.w_bodyL, ↓DL.wret_non, ↓DL.wret_bl, ↓DL.wret_int, ↓DL.wret_str, ↓DL.wif_t, ↓DL.wif_f, ↓DL.wif_d, ↓DL.wif_n, ↓DL.wif_a, ↓DL.wif_o, DL.few0, DL.few1, DL.few2, DL.few3, DL.few4, DL.few5, DL.few6, DL.few7, DL.few8, DL.few9, DL.few10, true_and, and_true, ↓DL.a_nm, ↓DL.a_tp1, ↓DL.a_tp2, ↓DL.a_tp3, ↓DL.a_tp4, ↓DL.a_tp5, ↓DL.a_tpn, ↓DL.a_tpm, ↓DL.a_encP, DL.wipe_nil, DL.wipe_cons, DL.o_add, DL.o_sub, DL.o_neg, ↓DL.o_mul, ↓DL.o_div, ↓DL.o_mod, DL.o_pow, ↓DL.o_p10_3, ↓DL.o_p10_4, ↓DL.o_p10_6, ↓DL.o_p10_8, ↓DL.o_p10_9, ↓DL.o_p10_12, ↓DL.o_p10_15, ↓DL.o_p10_18, ↓DL.o_p10_20, ↓DL.o_p10_25, ↓DL.o_p10_26, ↓DL.o_p10_27, ↓DL.o_p10_28, ↓DL.o_p10_29, ↓DL.o_p10_30, ↓DL.o_p10_31, ↓DL.o_p10_36, ↓DL.o_p10_38, ↓DL.o_p10_40, ↓DL.o_p10_42, ↓DL.o_p10_44, ↓DL.o_p10_46, ↓DL.o_p10_48, ↓DL.o_p10_50, ↓DL.o_p10_60, ↓DL.o_p10_64, ↓DL.o_p10_70, ↓DL.o_p10_90, ↓DL.o_p10_99, ↓DL.o_p10_100, ↓DL.o_addS, ↓DL.o_addT, ↓DL.o_catL, ↓DL.o_addL, DL.o_lt, DL.o_le, DL.o_gt, DL.o_ge, DL.o_eqI, DL.o_neI, DL.o_eqS, DL.o_neS, DL.o_is, DL.o_isn, DL.n_non, DL.n_bl, DL.n_int, DL.n_str, DL.n_lst, DL.n_tup, DL.n_ref, DL.n_obj, DL.i_non_int, DL.i_non_bool, DL.i_non_str, DL.i_non_list, DL.i_non_tuple, DL.i_bl_int, DL.i_bl_bool, DL.i_bl_str, DL.i_bl_list, DL.i_bl_tuple, DL.i_int_int, DL.i_int_bool, DL.i_int_str, DL.i_int_list, DL.i_int_tuple, DL.i_str_int, DL.i_str_bool, DL.i_str_str, DL.i_str_list, DL.i_str_tuple, DL.i_lst_int, DL.i_lst_bool, DL.i_lst_str, DL.i_lst_list, DL.i_lst_tuple, DL.i_tup_int, DL.i_tup_bool, DL.i_tup_str, DL.i_tup_list, DL.i_tup_tuple, DL.t_non, DL.t_bl, DL.t_int, DL.t_lst, DL.t_tup, ↓DL.x_lst, ↓DL.x_tup, ↓DL.x_encP0, ↓DL.x_encP1, DL.ixn1_0, DL.ixn1_m1, DL.ixn2_0, DL.ixn2_1, DL.ixn2_m1, DL.ixn3_0, DL.ixn3_1, DL.ixn3_2, DL.ixn3_m1, DL.ixn4_0, DL.ixn4_1, DL.ixn4_2, DL.ixn4_3, DL.ixn4_m1, DL.ixn5_0, DL.ixn5_1, DL.ixn5_2, DL.ixn5_3, DL.ixn5_4, DL.ixn5_m1, DL.ixn6_0, DL.ixn6_1, DL.ixn6_2, DL.ixn6_3, DL.ixn6_4, DL.ixn6_5, DL.ixn6_m1, DL.ixn7_0, DL.ixn7_1, DL.ixn7_2, DL.ixn7_3, DL.ixn7_4, DL.ixn7_5, DL.ixn7_6, DL.ixn7_m1, DL.ixn8_0, DL.ixn8_1, DL.ixn8_2, DL.ixn8_3, DL.ixn8_4, DL.ixn8_5, DL.ixn8_6, DL.ixn8_7, DL.ixn8_m1, ↓DL.x1_0, ↓DL.x1_m1, ↓DL.x2_0, ↓DL.x2_1, ↓DL.x2_m1, ↓DL.x3_0, ↓DL.x3_1, ↓DL.x3_2, ↓DL.x3_m1, ↓DL.x4_0, ↓DL.x4_1, ↓DL.x4_2, ↓DL.x4_3, ↓DL.x4_m1, ↓DL.x5_0, ↓DL.x5_1, ↓DL.x5_2, ↓DL.x5_3, ↓DL.x5_4, ↓DL.x5_m1, ↓DL.x6_0, ↓DL.x6_1, ↓DL.x6_2, ↓DL.x6_3, ↓DL.x6_4, ↓DL.x6_5, ↓DL.x6_m1, ↓DL.x7_0, ↓DL.x7_1, ↓DL.x7_2, ↓DL.x7_3, ↓DL.x7_4, ↓DL.x7_5, ↓DL.x7_6, ↓DL.x7_m1, ↓DL.x8_0, ↓DL.x8_1, ↓DL.x8_2, ↓DL.x8_3, ↓DL.x8_4, ↓DL.x8_5, ↓DL.x8_6, ↓DL.x8_7, ↓DL.x8_m1, DL.c_abs, DL.c_max2, DL.c_min2, DL.c_int, DL.c_intb, DL.c_lenS, DL.c_lenT, DL.c_lenL, DL.c_listT, DL.c_listL, DL.c_tupT, DL.c_tupL, DL.c_sum, DL.c_sum0, DL.c_all, DL.c_any, DL.c_minP, DL.c_maxP, DL.c_sortP, DL.c_zip, DL.c_enum, DL.c_range1, DL.c_range2, DL.g_lst, DL.g_tup, DL.g_str, DL.p_int, DL.sq_lst, DL.sl_lst, DL.sl_tup, DL.sl_str, DL.slL_lst, DL.om_some, List.set_cons_zero, List.set_cons_succ, DL.m_tyL, DL.m_tyS, DL.m_ty, DL.m_app, DL.m_sto, DL.m_fzL, DL.m_fzI, DL.m_fzT, DL.m_fz, DL.x_ref, DL.c_lenR, DL.c_listR, DL.c_tupR, DL.sl_ref, DL.atL_new, DL.atL_new1, DL.atL_new2, DL.atL_old, DL.set_new, DL.set_new1, DL.set_new2, DL.set_old, DL.take_app, DL.app_app, DL.cons_app, DL.nil_app, DL.len_app1, DL.len_app2, DL.len_app3, DL.len_set, DL.seq_new, DL.seq_new1, DL.seq_new2, DL.seq_old, DL.ex_some, DL.fl_non, DL.fl_int, DL.fl_bl, DL.fl_str, DL.fl_tup, DL.fl_lst, DL.fl_obj, DL.fl_nil, DL.fl_cons, DL.fl_app, DL.fl_encP, Bool.and_self, Bool.and_true, Bool.true_and, List.set_set, ↓DL.w_yes, ↓DL.w_fld, ↓DL.w_mt, ↓DL.w_mtL, ↓DL.w_mt0, ↓DL.w_mt0L, ↓DL.w_ic, DL.isO_obj, ↓DL.w_make, ↓DL.w_b2M, ↓DL.w_b2MT, DL.c_intU, DL.c_intbU, ↓DL.w_mthL, ↓DL.w_uM, ↓DL.w_inv, ↓DL.w_bin_obj, ↓DL.w_bin_int, ↓DL.w_fldS, DL.m_fld, DL.atI_new, DL.putD, ↓DL.w_repL, ↓DL.w_isiC, ↓DL.w_par3, ↓DL.wPar3_3, DL.m_count, DL.wretL_new, DL.wret_new, ↓DL.c_setSort, DL.o_addI, DL.o_inS, DL.o_ninS, ↓DL.c_str, ↓DL.c_intSw, ↓DL.m_ext, DL.slt_l, DL.slt_t, DL.slt_r, ↓DL.c_dm, ↓DL.c_split, ↓DL.c_join, ↓DL.c_rep, ↓DL.x_str, ↓DL.o_catRL, ↓DL.o_addRL, ↓DL.wret_tup, ↓DL.wret_lst, List.take_length, List.length_cons, List.length_nil, List.length_map, Int.cast_ofNat_Int, Bool.not_true, Bool.not_false, Int.reduceAdd, Int.reduceSub, Int.reduceMul, Int.reduceNeg, Int.reduceEq, Int.reduceLT, Int.reduceLE, Nat.reduceAdd, Nat.reduceSub, eq_self, not_true_eq_false, not_false_eq_true, false_implies, implies_true, true_implies, ff_Profile_own_cold, ff_Profile_own_pieces, fm_Profile_pieces, fm_Profile_accesses, fm_Profile_cold, isf_Profile_Profile, isf_Profile_0s, isf_Profile_0i, isf_Profile_0l, isf_Profile_0t, isf_Profile_0n, isf_Profile_0b, isf_Profile_0d])
section
variable {S R : Cells} {E : Xc → Cells → Prop} {Q : D → Cells → Prop} {QL : List D → Cells → Prop}
theorem cut_take {l : List D} {k : Nat} : DL.cutD l none (some (k : Int)) = l.take k := by
  unfold DL.cutD
  rw [show HT.sIx l.length 0 none = 0 from rfl, HT.sIx_nat, List.drop_zero, Nat.sub_zero]
  rcases Nat.le_total k l.length with h | h
  · rw [Nat.min_eq_left h]
  · rw [Nat.min_eq_right h, List.take_length, List.take_of_length_le h]
theorem cut_drop {l : List D} {k : Nat} : DL.cutD l (some (k : Int)) none = l.drop k := by
  unfold DL.cutD
  rw [show HT.sIx l.length l.length none = l.length from rfl, HT.sIx_nat]
  rcases Nat.le_total k l.length with h | h
  · rw [Nat.min_eq_left h, List.take_of_length_le (by rw [List.length_drop]; omega)]
  · rw [Nat.min_eq_right h, Nat.sub_self, List.take_zero, List.drop_of_length_le h]
def encN (x : Int × List MP.T) : D := .tup [.int x.1, .lst (x.2.map encT)]
structure Nr (b t : Int) (z : Nat) (c : Int) (x : Int × List MP.T) : Prop where
  c0 : 0 ≤ x.1
  c1 : x.1 ≤ c + 1
  a : MP.Asc 1 x.2
  b : ∀ p ∈ x.2, p.2.1 ≤ b + 1 ∧ p.2.2 ≤ t + 1
  z : x.2.length ≤ z + 1
theorem ql_of {l m : List D} (h : QL l S) (e : l = m) : QL m S := e ▸ h
theorem asc_pre : ∀ {lo : Int} {A B : List MP.T}, MP.Asc lo (A ++ B) → MP.Asc lo A
  | _, [], _, _ => trivial
  | _, _ :: _, _, h => ⟨h.1, h.2.1, h.2.2.1, asc_pre h.2.2.2⟩
theorem asc_put : ∀ {lo : Int} {A C : List MP.T} {p : MP.T} {o : Int}, MP.Asc lo (A ++ p :: C) → 0 < o → MP.Asc lo (A ++ (p.1, p.2.1, o) :: C)
  | _, [], _, _, _, h, ho => ⟨h.1, h.2.1, ho, h.2.2.2⟩
  | _, _ :: _, _, _, _, h, ho => ⟨h.1, h.2.1, h.2.2.1, asc_put h.2.2.2 ho⟩
theorem asc_far : ∀ {lo : Int} {A : List MP.T} {p : MP.T} {e : Int}, MP.Asc lo (A ++ [p]) → p.2.1 ≤ e → MP.Asc lo (A ++ [(p.1, e, p.2.2)])
  | _, [], p, e, h, he => ⟨h.1, Int.le_trans h.2.1 he, h.2.2.1, trivial⟩
  | _, _ :: _, _, _, h, he => ⟨h.1, h.2.1, h.2.2.1, asc_far h.2.2.2 he⟩
theorem asc_drop1 {F : List MP.T} (h : MP.Asc 1 F) : MP.Asc 1 (F.drop 1) := by
  cases F with
  | nil => exact trivial
  | cons p F => exact h.2.2.2.mono (by have := h.1; have := h.2.1; omega)
theorem near_wp {n k : Nat} {F : List MP.T} {b t c : Int} (h : Pond S n k) (hk : k ≤ 10 ^ 11) (hc : 0 ≤ c) (ha : MP.Asc 1 F) (hF0 : ∀ p ∈ F, p.2.1 ≤ b ∧ p.2.2 ≤ t) (hb0 : 0 ≤ b) (ht0 : 0 ≤ t) (hb : b ≤ 10 ^ 50) (ht : t ≤ 10 ^ 50) (hz : F.length ≤ 1000)
    (q : ∀ (L : List (Int × List MP.T)) S', (∀ x ∈ L, Nr b t F.length c x) → L.length ≤ 6 → Pond S' n (k + 1) → Fr S S' n → QL (L.map encN) S') : wp (g__law_near [.ref n, .int c, .lst (F.map encT)] S) QL E := by
  have zz := z24
  have hne : ∀ S, dNe (.lst (F.map encT)) (.lst []) S = some (.bl (!(F.map encT).isEmpty)) := fun S => dNe_nil (gd_pieces fun p hp => by
    have := ha.mem p hp
    have := hF0 p hp
    omega)
  rcases List.eq_nil_or_concat F with eF | ⟨A, s, eF⟩
  · subst eF
    have hne : ∀ S, dNe (.lst (([] : List MP.T).map encT)) (.lst []) S = some (.bl false) := hne
    push_cast [g__law_near, B__law_near, hne, cut_1, cut_m1]
    refine ⟨by rfl, by omega, by rfl, by omega, q [(c + 1, []), (c, []), (c, []), (c, [(1, 1, 1)])] S (fun x hx => ?_) (by simp) (h.mono (by omega)) (Fr.refl _ _)⟩
    simp only [List.mem_cons, List.not_mem_nil, or_false] at hx
    rcases hx with rfl | rfl | rfl | rfl
    · exact ⟨by show 0 ≤ c + 1; omega, Int.le_refl _, trivial, fun p hp => by simp at hp, by simp⟩
    · exact ⟨hc, by show c ≤ c + 1; omega, trivial, fun p hp => by simp at hp, by simp⟩
    · exact ⟨hc, by show c ≤ c + 1; omega, trivial, fun p hp => by simp at hp, by simp⟩
    · exact ⟨hc, by show c ≤ c + 1; omega, ⟨Int.le_refl _, Int.le_refl _, by decide, trivial⟩, fun p hp => by
        rw [List.mem_singleton] at hp
        subst hp
        exact ⟨by show 1 ≤ b + 1; omega, by show 1 ≤ t + 1; omega⟩, by simp⟩
  · rw [List.concat_eq_append] at eF
    have hne : ∀ S, dNe (.lst (F.map encT)) (.lst []) S = some (.bl true) := fun S => by rw [hne, eF]; simp
    have hl : ∀ S (Q : D → Cells → Prop), wAt (F.map encT) (-1) S Q = Q (encT s) S := fun S Q => by rw [eF]; exact at_last
    have hsm := ha.mem s (by rw [eF]; simp)
    have hsb := hF0 s (by rw [eF]; simp)
    have hlen : F.length = A.length + 1 := by rw [eF]; simp
    push_cast [g__law_near, B__law_near, hne, hl, encT, cut_1, cut_m1, List.length_map, ← List.map_drop, ← List.map_dropLast]
    refine ⟨by simp only [fl_ts]; rfl, by omega, fl_ts, by omega, ?_⟩
    refine dip_wp h (by omega) (by omega) (by omega) fun v S1 v0 v1 hp hf => ?_
    obtain ⟨i, rfl⟩ := Int.eq_ofNat_of_zero_le v0
    obtain ⟨p, hpe⟩ : ∃ p, F[i]? = some p := ⟨_, List.getElem?_eq_getElem (by omega)⟩
    have hpm := List.mem_of_getElem? hpe
    have pp := ha.mem p hpm
    have pb := hF0 p hpm
    have eF2 : F = F.take i ++ p :: F.drop (i + 1) := by
      obtain ⟨hi, hg⟩ := List.getElem?_eq_some_iff.mp hpe
      rw [← hg, ← List.drop_eq_getElem_cons hi, List.take_append_drop]
    have ei : ((i : Nat) : Int) + 1 = ((i + 1 : Nat) : Int) := by omega
    push_cast [wAt_map (enc := encT) (k := (i : Int)) rfl hpe, hl, encT, cut_m1, cut_take, cut_drop, hf.len, List.length_map, ← List.map_drop, ← List.map_dropLast, ← List.map_take, ei]
    have eA : F.dropLast = A := by rw [eF]; simp
    have hA : ∀ x ∈ A, x ∈ F := fun x hx => by rw [eF]; exact List.mem_append_left _ hx
    have lt : (F.take i).length ≤ F.length := by rw [List.length_take]; omega
    have ld : (F.drop (i + 1)).length ≤ F.length := by rw [List.length_drop]; omega
    refine ⟨by omega, by simp only [List.length_append, List.length_map, List.length_cons, List.length_nil]; omega, by simp only [fl_ts]; rfl, by simp only [List.length_append, List.length_cons, List.length_nil]; omega, by rw [eA]; omega, fl_ts, by simp only [List.length_append, List.length_cons, List.length_nil]; omega, ?_⟩
    refine ql_of (q [(c + 1, F), (c, F.drop 1), (c, F.dropLast), (c, F ++ [(s.2.1 + 1, s.2.1 + 1, 1)]), (c, F.take i ++ (p.1, p.2.1, p.2.2 + 1) :: F.drop (i + 1)), (c, F.dropLast ++ [(s.1, s.2.1 + 1, s.2.2)])] S1 (fun x hx => ?_) (by simp) hp hf) ?_
    · simp only [List.mem_cons, List.not_mem_nil, or_false] at hx
      have wk : ∀ x ∈ F, x.2.1 ≤ b + 1 ∧ x.2.2 ≤ t + 1 := fun x hx => by have := hF0 x hx; omega
      rcases hx with rfl | rfl | rfl | rfl | rfl | rfl
      · exact ⟨by show 0 ≤ c + 1; omega, Int.le_refl _, ha, wk, by show F.length ≤ F.length + 1; omega⟩
      · exact ⟨hc, by show c ≤ c + 1; omega, asc_drop1 ha, fun x hx => wk x (List.mem_of_mem_drop hx), by show (F.drop 1).length ≤ _; rw [List.length_drop]; omega⟩
      · exact ⟨hc, by show c ≤ c + 1; omega, by show MP.Asc 1 F.dropLast; rw [eA]; rw [eF] at ha; exact asc_pre ha, fun x hx => wk x (hA x (by rw [← eA]; exact hx)), by show F.dropLast.length ≤ _; rw [eA]; omega⟩
      · refine ⟨hc, by show c ≤ c + 1; omega, asc_snoc ha (fun x hx => ?_) (by show 1 ≤ s.2.1 + 1; omega) (Int.le_refl _) (by show (0 : Int) < 1; decide), fun x hx => ?_, by show (F ++ [_]).length ≤ _; simp⟩
        · show x.2.1 < s.2.1 + 1
          rw [eF] at hx
          rcases List.mem_append.mp hx with hx | hx
          · obtain ⟨B, C, eB⟩ := List.append_of_mem hx
            rw [eF, eB, List.append_assoc] at ha
            have := (asc_later (A := B) ha).mem s (by simp)
            omega
          · rw [List.mem_singleton] at hx
            subst hx
            omega
        · rcases List.mem_append.mp hx with hx | hx
          · exact wk x hx
          · rw [List.mem_singleton] at hx
            subst hx
            exact ⟨by show s.2.1 + 1 ≤ b + 1; omega, by show 1 ≤ t + 1; omega⟩
      · refine ⟨hc, by show c ≤ c + 1; omega, asc_put (p := p) (by rw [← eF2]; exact ha) (by omega), fun x hx => ?_, by show (F.take i ++ _ :: F.drop (i + 1)).length ≤ _; rw [List.length_append, List.length_cons, List.length_take, List.length_drop]; omega⟩
        rcases List.mem_append.mp hx with hx | hx
        · exact wk x (List.mem_of_mem_take hx)
        · rcases List.mem_cons.mp hx with hx | hx
          · subst hx
            exact ⟨by show p.2.1 ≤ b + 1; omega, by show p.2.2 + 1 ≤ t + 1; omega⟩
          · exact wk x (List.mem_of_mem_drop hx)
      · refine ⟨hc, by show c ≤ c + 1; omega, ?_, fun x hx => ?_, by show (F.dropLast ++ _).length ≤ _; rw [eA]; simp; omega⟩
        · show MP.Asc 1 (F.dropLast ++ [(s.1, s.2.1 + 1, s.2.2)])
          rw [eA]
          rw [eF] at ha
          exact asc_far ha (by omega)
        · rcases List.mem_append.mp hx with hx | hx
          · exact wk x (hA x (by rw [← eA]; exact hx))
          · rw [List.mem_singleton] at hx
            subst hx
            exact ⟨by show s.2.1 + 1 ≤ b + 1; omega, by show s.2.2 ≤ t + 1; omega⟩
    · simp only [List.map_cons, List.map_nil, encN, List.map_append, encT, List.append_assoc]
      rfl
end

end K12
end
section
set_option maxHeartbeats 4000000
set_option exponentiation.threshold 3000
namespace K12
open PySem PySem.Spec L2 DL
open PyProof.Rows hiding St
open Lean in
local macro_rules | `(tactic| push_cast [$ts,*]) => `(tactic| simp only [↓DL.r0, ↓DL.r1, ↓DL.r2, ↓DL.r3, ↓DL.r4, ↓DL.r5, ↓DL.r6, ↓DL.r7, ↓DL.r8, ↓DL.r9, ↓DL.r10, ↓DL.r11, ↓DL.r12, ↓DL.r13, ↓DL.r14, ↓DL.r15, ↓DL.r16, ↓DL.r17, ↓DL.r18, ↓DL.r19, ↓DL.r20, ↓DL.r21, ↓DL.r22, ↓DL.r23, ↓DL.r24, ↓DL.r25, ↓DL.r26, ↓DL.r27, ↓DL.r28, ↓DL.r29, DL.s0, DL.s1, DL.s2, DL.s3, DL.s4, DL.s5, DL.s6, DL.s7, DL.s8, DL.s9, DL.s10, DL.s11, DL.s12, DL.s13, DL.s14, DL.s15, DL.s16, DL.s17, DL.s18, DL.s19, DL.s20, DL.s21, DL.s22, DL.s23, DL.s24, DL.s25, DL.s26, DL.s27, DL.s28, DL.s29, DL.startD_cons, DL.startD_nil, DL.startD_zero, ↓DL.w_ok, ↓DL.w_some, ↓DL.w_somec, ↓DL.w_bind, ↓DL.w_opt, ↓DL.w_chg, ↓DL.w_kon, ↓DL.w_calm, ↓DL.w_b2, ↓DL.w_b2L, ↓DL.w_b1, ↓DL.wB_bl, ↓DL.w_asB, ↓DL.w_b2T, ↓DL.w_chE, ↓DL.w_chT, ↓DL.w_not, ↓DL.w_val, ↓DL.w_notE, ↓DL.w_ifE, ↓DL.w_ifL, ↓DL.w_andM, ↓DL.w_orM, ↓DL.w_andE, ↓DL.w_orE, ↓DL.w_nil, ↓DL.w_cons, ↓DL.w_tup, ↓DL.w_lst, ↓DL.w_frz, ↓DL.w_new, ↓DL.w_cel, ↓DL.w_cb, ↓DL.w_cbL, ↓DL.w_call, ↓DL.w_callL, ↓DL.w_ar0, ↓DL.w_ar1, ↓DL.w_ar2, ↓DL.w_ar3, ↓DL.w_ar4, ↓DL.w_ar5, ↓DL.w_ar6, ↓DL.w_noO, ↓DL.w_smO, ↓DL.w_sl, ↓DL.w_slL, ↓DL.w_rev, ↓DL.w_step, ↓DL.w_isi, ↓DL.w_sets, ↓DL.w_lrg, ↓DL.w_mth, ↓DL.w_mth0, ↓DL.w_itS, ↓DL.w_itR1, ↓DL.w_itR2, ↓DL.w_itR3, ↓DL.w_itZ, ↓DL.w_itN, ↓DL.w_lc, ↓DL.w_nx, ↓DL.w_rt, ↓DL.w_seq, ↓DL.w_set, ↓DL.wPar_2, ↓DL.w_par, ↓DL.w_aug, ↓DL.w_sto, ↓DL.w_exp, ↓DL.w_ret, ↓DL.w_retN, ↓DL.w_nxS, ↓DL.w_ifS, ↓DL.w_for, ↓DL.w_asg, ↓DL.w_stk, ↓DL.w_body, ↓DL.w_bodyL, ↓DL.wret_non, ↓DL.wret_bl, ↓DL.wret_int, ↓DL.wret_str, ↓DL.wif_t, ↓DL.wif_f, ↓DL.wif_d, ↓DL.wif_n, ↓DL.wif_a, ↓DL.wif_o, DL.few0, DL.few1, DL.few2, DL.few3, DL.few4, DL.few5, DL.few6, DL.few7, DL.few8, DL.few9, DL.few10, true_and, and_true, ↓DL.a_nm, ↓DL.a_tp1, ↓DL.a_tp2, ↓DL.a_tp3, ↓DL.a_tp4, ↓DL.a_tp5, ↓DL.a_tpn, ↓DL.a_tpm, ↓DL.a_encP, DL.wipe_nil, DL.wipe_cons, DL.o_add, DL.o_sub, DL.o_neg, ↓DL.o_mul, ↓DL.o_div, ↓DL.o_mod, DL.o_pow, ↓DL.o_p10_3, ↓DL.o_p10_4, ↓DL.o_p10_6, ↓DL.o_p10_8, ↓DL.o_p10_9, ↓DL.o_p10_12, ↓DL.o_p10_15, ↓DL.o_p10_18, ↓DL.o_p10_20, ↓DL.o_p10_25, ↓DL.o_p10_26, ↓DL.o_p10_27, ↓DL.o_p10_28, ↓DL.o_p10_29, ↓DL.o_p10_30, ↓DL.o_p10_31, ↓DL.o_p10_36, ↓DL.o_p10_38, ↓DL.o_p10_40, ↓DL.o_p10_42, ↓DL.o_p10_44, ↓DL.o_p10_46, ↓DL.o_p10_48, ↓DL.o_p10_50, ↓DL.o_p10_60, ↓DL.o_p10_64, ↓DL.o_p10_70, ↓DL.o_p10_90, ↓DL.o_p10_99, ↓DL.o_p10_100, ↓DL.o_addS, ↓DL.o_addT, ↓DL.o_catL, ↓DL.o_addL, DL.o_lt, DL.o_le, DL.o_gt, DL.o_ge, DL.o_eqI, DL.o_neI, DL.o_eqS, DL.o_neS, DL.o_is, DL.o_isn, DL.n_non, DL.n_bl, DL.n_int, DL.n_str, DL.n_lst, DL.n_tup, DL.n_ref, DL.n_obj, DL.i_non_int, DL.i_non_bool, DL.i_non_str, DL.i_non_list, DL.i_non_tuple, DL.i_bl_int, DL.i_bl_bool, DL.i_bl_str, DL.i_bl_list, DL.i_bl_tuple, DL.i_int_int, DL.i_int_bool, DL.i_int_str, DL.i_int_list, DL.i_int_tuple, DL.i_str_int, DL.i_str_bool, DL.i_str_str, DL.i_str_list, DL.i_str_tuple, DL.i_lst_int, DL.i_lst_bool, DL.i_lst_str, DL.i_lst_list, DL.i_lst_tuple, DL.i_tup_int, DL.i_tup_bool, DL.i_tup_str, DL.i_tup_list, DL.i_tup_tuple, DL.t_non, DL.t_bl, DL.t_int, DL.t_lst, DL.t_tup, ↓DL.x_lst, ↓DL.x_tup, ↓DL.x_encP0, ↓DL.x_encP1, DL.ixn1_0, DL.ixn1_m1, DL.ixn2_0, DL.ixn2_1, DL.ixn2_m1, DL.ixn3_0, DL.ixn3_1, DL.ixn3_2, DL.ixn3_m1, DL.ixn4_0, DL.ixn4_1, DL.ixn4_2, DL.ixn4_3, DL.ixn4_m1, DL.ixn5_0, DL.ixn5_1, DL.ixn5_2, DL.ixn5_3, DL.ixn5_4, DL.ixn5_m1, DL.ixn6_0, DL.ixn6_1, DL.ixn6_2, DL.ixn6_3, DL.ixn6_4, DL.ixn6_5, DL.ixn6_m1, DL.ixn7_0, DL.ixn7_1, DL.ixn7_2, DL.ixn7_3, DL.ixn7_4, DL.ixn7_5, DL.ixn7_6, DL.ixn7_m1, DL.ixn8_0, DL.ixn8_1, DL.ixn8_2, DL.ixn8_3, DL.ixn8_4, DL.ixn8_5, DL.ixn8_6, DL.ixn8_7, DL.ixn8_m1, ↓DL.x1_0, ↓DL.x1_m1, ↓DL.x2_0, ↓DL.x2_1, ↓DL.x2_m1, ↓DL.x3_0, ↓DL.x3_1, ↓DL.x3_2, ↓DL.x3_m1, ↓DL.x4_0, ↓DL.x4_1, ↓DL.x4_2, ↓DL.x4_3, ↓DL.x4_m1, ↓DL.x5_0, ↓DL.x5_1, ↓DL.x5_2, ↓DL.x5_3, ↓DL.x5_4, ↓DL.x5_m1, ↓DL.x6_0, ↓DL.x6_1, ↓DL.x6_2, ↓DL.x6_3, ↓DL.x6_4, ↓DL.x6_5, ↓DL.x6_m1, ↓DL.x7_0, ↓DL.x7_1, ↓DL.x7_2, ↓DL.x7_3, ↓DL.x7_4, ↓DL.x7_5, ↓DL.x7_6, ↓DL.x7_m1, ↓DL.x8_0, ↓DL.x8_1, ↓DL.x8_2, ↓DL.x8_3, ↓DL.x8_4, ↓DL.x8_5, ↓DL.x8_6, ↓DL.x8_7, ↓DL.x8_m1, DL.c_abs, DL.c_max2, DL.c_min2, DL.c_int, DL.c_intb, DL.c_lenS, DL.c_lenT, DL.c_lenL, DL.c_listT, DL.c_listL, DL.c_tupT, DL.c_tupL, DL.c_sum, DL.c_sum0, DL.c_all, DL.c_any, DL.c_minP, DL.c_maxP, DL.c_sortP, DL.c_zip, DL.c_enum, DL.c_range1, DL.c_range2, DL.g_lst, DL.g_tup, DL.g_str, DL.p_int, DL.sq_lst, DL.sl_lst, DL.sl_tup, DL.sl_str, DL.slL_lst, DL.om_some, List.set_cons_zero, List.set_cons_succ, DL.m_tyL, DL.m_tyS, DL.m_ty, DL.m_app, DL.m_sto, DL.m_fzL, DL.m_fzI, DL.m_fzT, DL.m_fz, DL.x_ref, DL.c_lenR, DL.c_listR, DL.c_tupR, DL.sl_ref, DL.atL_new, DL.atL_new1, DL.atL_new2, DL.atL_old, DL.set_new, DL.set_new1, DL.set_new2, DL.set_old, DL.take_app, DL.app_app, DL.cons_app, DL.nil_app, DL.len_app1, DL.len_app2, DL.len_app3, DL.len_set, DL.seq_new, DL.seq_new1, DL.seq_new2, DL.seq_old, DL.ex_some, DL.fl_non, DL.fl_int, DL.fl_bl, DL.fl_str, DL.fl_tup, DL.fl_lst, DL.fl_obj, DL.fl_nil, DL.fl_cons, DL.fl_app, DL.fl_encP, Bool.and_self, Bool.and_true, Bool.true_and, List.set_set, ↓DL.w_yes, ↓DL.w_fld, ↓DL.w_mt, ↓DL.w_mtL, ↓DL.w_mt0, ↓DL.w_mt0L, ↓DL.w_ic, DL.isO_obj, ↓DL.w_make, ↓DL.w_b2M, ↓DL.w_b2MT, DL.c_intU, DL.c_intbU, ↓DL.w_mthL, ↓DL.w_uM, ↓DL.w_inv, ↓DL.w_bin_obj, ↓DL.w_bin_int, ↓DL.w_fldS, DL.m_fld, DL.atI_new, DL.putD, ↓DL.w_repL, ↓DL.w_isiC, ↓DL.w_par3, ↓DL.wPar3_3, DL.m_count, DL.wretL_new, DL.wret_new, ↓DL.c_setSort, DL.o_addI, DL.o_inS, DL.o_ninS, ↓DL.c_str, ↓DL.c_intSw, ↓DL.m_ext, DL.slt_l, DL.slt_t, DL.slt_r, ↓DL.c_dm, ↓DL.c_split, ↓DL.c_join, ↓DL.c_rep, ↓DL.x_str, ↓DL.o_catRL, ↓DL.o_addRL, ↓DL.wret_tup, ↓DL.wret_lst, List.take_length, List.length_cons, List.length_nil, List.length_map, Int.cast_ofNat_Int, Bool.not_true, Bool.not_false, Int.reduceAdd, Int.reduceSub, Int.reduceMul, Int.reduceNeg, Int.reduceEq, Int.reduceLT, Int.reduceLE, Nat.reduceAdd, Nat.reduceSub, eq_self, not_true_eq_false, not_false_eq_true, false_implies, implies_true, true_implies, ff_Profile_own_cold, ff_Profile_own_pieces, fm_Profile_pieces, fm_Profile_accesses, fm_Profile_cold, isf_Profile_Profile, isf_Profile_0s, isf_Profile_0i, isf_Profile_0l, isf_Profile_0t, isf_Profile_0n, isf_Profile_0b, isf_Profile_0d, $ts,*])
open Lean in
local macro_rules | `(tactic| push_cast) => `(tactic| simp only [↓DL.r0, ↓DL.r1, ↓DL.r2, ↓DL.r3, ↓DL.r4, ↓DL.r5, ↓DL.r6, ↓DL.r7, ↓DL.r8, ↓DL.r9, ↓DL.r10, ↓DL.r11, ↓DL.r12, ↓DL.r13, ↓DL.r14, ↓DL.r15, ↓DL.r16, ↓DL.r17, ↓DL.r18, ↓DL.r19, ↓DL.r20, ↓DL.r21, ↓DL.r22, ↓DL.r23, ↓DL.r24, ↓DL.r25, ↓DL.r26, ↓DL.r27, ↓DL.r28, ↓DL.r29, DL.s0, DL.s1, DL.s2, DL.s3, DL.s4, DL.s5, DL.s6, DL.s7, DL.s8, DL.s9, DL.s10, DL.s11, DL.s12, DL.s13, DL.s14, DL.s15, DL.s16, DL.s17, DL.s18, DL.s19, DL.s20, DL.s21, DL.s22, DL.s23, DL.s24, DL.s25, DL.s26, DL.s27, DL.s28, DL.s29, DL.startD_cons, DL.startD_nil, DL.startD_zero, ↓DL.w_ok, ↓DL.w_some, ↓DL.w_somec, ↓DL.w_bind, ↓DL.w_opt, ↓DL.w_chg, ↓DL.w_kon, ↓DL.w_calm, ↓DL.w_b2, ↓DL.w_b2L, ↓DL.w_b1, ↓DL.wB_bl, ↓DL.w_asB, ↓DL.w_b2T, ↓DL.w_chE, ↓DL.w_chT, ↓DL.w_not, ↓DL.w_val, ↓DL.w_notE, ↓DL.w_ifE, ↓DL.w_ifL, ↓DL.w_andM, ↓DL.w_orM, ↓DL.w_andE, ↓DL.w_orE, ↓DL.w_nil, ↓DL.w_cons, ↓DL.w_tup, ↓DL.w_lst, ↓DL.w_frz, ↓DL.w_new, ↓DL.w_cel, ↓DL.w_cb, ↓DL.w_cbL, ↓DL.w_call, ↓DL.w_callL, ↓DL.w_ar0, ↓DL.w_ar1, ↓DL.w_ar2, ↓DL.w_ar3, ↓DL.w_ar4, ↓DL.w_ar5, ↓DL.w_ar6, ↓DL.w_noO, ↓DL.w_smO, ↓DL.w_sl, ↓DL.w_slL, ↓DL.w_rev, ↓DL.w_step, ↓DL.w_isi, ↓DL.w_sets, ↓DL.w_lrg, ↓DL.w_mth, ↓DL.w_mth0, ↓DL.w_itS, ↓DL.w_itR1, ↓DL.w_itR2, ↓DL.w_itR3, ↓DL.w_itZ, ↓DL.w_itN, ↓DL.w_lc, ↓DL.w_nx, ↓DL.w_rt, ↓DL.w_seq, ↓DL.w_set, ↓DL.wPar_2, ↓DL.w_par, ↓DL.w_aug, ↓DL.w_sto, ↓DL.w_exp, ↓DL.w_ret, ↓DL.w_retN, ↓DL.w_nxS, ↓DL.w_ifS, ↓DL.w_for, ↓DL.w_asg, ↓DL.w_stk, ↓DL.w_body, ↓DL.w_bodyL, ↓DL.wret_non, ↓DL.wret_bl, ↓DL.wret_int, ↓DL.wret_str, ↓DL.wif_t, ↓DL.wif_f, ↓DL.wif_d, ↓DL.wif_n, ↓DL.wif_a, ↓DL.wif_o, DL.few0, DL.few1, DL.few2, DL.few3, DL.few4, DL.few5, DL.few6, DL.few7, DL.few8, DL.few9, DL.few10, true_and, and_true, ↓DL.a_nm, ↓DL.a_tp1, ↓DL.a_tp2, ↓DL.a_tp3, ↓DL.a_tp4, ↓DL.a_tp5, ↓DL.a_tpn, ↓DL.a_tpm, ↓DL.a_encP, DL.wipe_nil, DL.wipe_cons, DL.o_add, DL.o_sub, DL.o_neg, ↓DL.o_mul, ↓DL.o_div, ↓DL.o_mod, DL.o_pow, ↓DL.o_p10_3, ↓DL.o_p10_4, ↓DL.o_p10_6, ↓DL.o_p10_8, ↓DL.o_p10_9, ↓DL.o_p10_12, ↓DL.o_p10_15, ↓DL.o_p10_18, ↓DL.o_p10_20, ↓DL.o_p10_25, ↓DL.o_p10_26, ↓DL.o_p10_27, ↓DL.o_p10_28, ↓DL.o_p10_29, ↓DL.o_p10_30, ↓DL.o_p10_31, ↓DL.o_p10_36, ↓DL.o_p10_38, ↓DL.o_p10_40, ↓DL.o_p10_42, ↓DL.o_p10_44, ↓DL.o_p10_46, ↓DL.o_p10_48, ↓DL.o_p10_50, ↓DL.o_p10_60, ↓DL.o_p10_64, ↓DL.o_p10_70, ↓DL.o_p10_90, ↓DL.o_p10_99, ↓DL.o_p10_100, ↓DL.o_addS, ↓DL.o_addT, ↓DL.o_catL, ↓DL.o_addL, DL.o_lt, DL.o_le, DL.o_gt, DL.o_ge, DL.o_eqI, DL.o_neI, DL.o_eqS, DL.o_neS, DL.o_is, DL.o_isn, DL.n_non, DL.n_bl, DL.n_int, DL.n_str, DL.n_lst, DL.n_tup, DL.n_ref, DL.n_obj, DL.i_non_int, DL.i_non_bool, DL.i_non_str, DL.i_non_list, DL.i_non_tuple, DL.i_bl_int, DL.i_bl_bool, DL.i_bl_str, DL.i_bl_list, DL.i_bl_tuple, DL.i_int_int, DL.i_int_bool, DL.i_int_str, DL.i_int_list, DL.i_int_tuple, DL.i_str_int, DL.i_str_bool, DL.i_str_str, DL.i_str_list, DL.i_str_tuple, DL.i_lst_int, DL.i_lst_bool, DL.i_lst_str, DL.i_lst_list, DL.i_lst_tuple, DL.i_tup_int, DL.i_tup_bool, DL.i_tup_str, DL.i_tup_list, DL.i_tup_tuple, DL.t_non, DL.t_bl, DL.t_int, DL.t_lst, DL.t_tup, ↓DL.x_lst, ↓DL.x_tup, ↓DL.x_encP0, ↓DL.x_encP1, DL.ixn1_0, DL.ixn1_m1, DL.ixn2_0, DL.ixn2_1, DL.ixn2_m1, DL.ixn3_0, DL.ixn3_1, DL.ixn3_2, DL.ixn3_m1, DL.ixn4_0, DL.ixn4_1, DL.ixn4_2, DL.ixn4_3, DL.ixn4_m1, DL.ixn5_0, DL.ixn5_1, DL.ixn5_2, DL.ixn5_3, DL.ixn5_4, DL.ixn5_m1, DL.ixn6_0, DL.ixn6_1, DL.ixn6_2, DL.ixn6_3, DL.ixn6_4, DL.ixn6_5, DL.ixn6_m1, DL.ixn7_0, DL.ixn7_1, DL.ixn7_2, DL.ixn7_3, DL.ixn7_4, DL.ixn7_5, DL.ixn7_6, DL.ixn7_m1, DL.ixn8_0, DL.ixn8_1, DL.ixn8_2, DL.ixn8_3, DL.ixn8_4, DL.ixn8_5, DL.ixn8_6, DL.ixn8_7, DL.ixn8_m1, ↓DL.x1_0, ↓DL.x1_m1, ↓DL.x2_0, ↓DL.x2_1, ↓DL.x2_m1, ↓DL.x3_0, ↓DL.x3_1, ↓DL.x3_2, ↓DL.x3_m1, ↓DL.x4_0, ↓DL.x4_1, ↓DL.x4_2, ↓DL.x4_3, ↓DL.x4_m1, ↓DL.x5_0, ↓DL.x5_1, ↓DL.x5_2, ↓DL.x5_3, ↓DL.x5_4, ↓DL.x5_m1, ↓DL.x6_0, ↓DL.x6_1, ↓DL.x6_2, ↓DL.x6_3, ↓DL.x6_4, ↓DL.x6_5, ↓DL.x6_m1, ↓DL.x7_0, ↓DL.x7_1, ↓DL.x7_2, ↓DL.x7_3, ↓DL.x7_4, ↓DL.x7_5, ↓DL.x7_6, ↓DL.x7_m1, ↓DL.x8_0, ↓DL.x8_1, ↓DL.x8_2, ↓DL.x8_3, ↓DL.x8_4, ↓DL.x8_5, ↓DL.x8_6, ↓DL.x8_7, ↓DL.x8_m1, DL.c_abs, DL.c_max2, DL.c_min2, DL.c_int, DL.c_intb, DL.c_lenS, DL.c_lenT, DL.c_lenL, DL.c_listT, DL.c_listL, DL.c_tupT, DL.c_tupL, DL.c_sum, DL.c_sum0, DL.c_all, DL.c_any, DL.c_minP, DL.c_maxP, DL.c_sortP, DL.c_zip, DL.c_enum, DL.c_range1, DL.c_range2, DL.g_lst, DL.g_tup, DL.g_str, DL.p_int, DL.sq_lst, DL.sl_lst, DL.sl_tup, DL.sl_str, DL.slL_lst, DL.om_some, List.set_cons_zero, List.set_cons_succ, DL.m_tyL, DL.m_tyS, DL.m_ty, DL.m_app, DL.m_sto, DL.m_fzL, DL.m_fzI, DL.m_fzT, DL.m_fz, DL.x_ref, DL.c_lenR, DL.c_listR, DL.c_tupR, DL.sl_ref, DL.atL_new, DL.atL_new1, DL.atL_new2, DL.atL_old, DL.set_new, DL.set_new1, DL.set_new2, DL.set_old, DL.take_app, DL.app_app, DL.cons_app, DL.nil_app, DL.len_app1, DL.len_app2, DL.len_app3, DL.len_set, DL.seq_new, DL.seq_new1, DL.seq_new2, DL.seq_old, DL.ex_some, DL.fl_non, DL.fl_int, DL.fl_bl, DL.fl_str, DL.fl_tup, DL.fl_lst, DL.fl_obj, DL.fl_nil, DL.fl_cons, DL.fl_app, DL.fl_encP, Bool.and_self, Bool.and_true, Bool.true_and, List.set_set, ↓DL.w_yes, ↓DL.w_fld, ↓DL.w_mt, ↓DL.w_mtL, ↓DL.w_mt0, ↓DL.w_mt0L, ↓DL.w_ic, DL.isO_obj, ↓DL.w_make, ↓DL.w_b2M, ↓DL.w_b2MT, DL.c_intU, DL.c_intbU, ↓DL.w_mthL, ↓DL.w_uM, ↓DL.w_inv, ↓DL.w_bin_obj, ↓DL.w_bin_int, ↓DL.w_fldS, DL.m_fld, DL.atI_new, DL.putD, ↓DL.w_repL, ↓DL.w_isiC, ↓DL.w_par3, ↓DL.wPar3_3, DL.m_count, DL.wretL_new, DL.wret_new, ↓DL.c_setSort, DL.o_addI, DL.o_inS, DL.o_ninS, ↓DL.c_str, ↓DL.c_intSw, ↓DL.m_ext, DL.slt_l, DL.slt_t, DL.slt_r, ↓DL.c_dm, ↓DL.c_split, ↓DL.c_join, ↓DL.c_rep, ↓DL.x_str, ↓DL.o_catRL, ↓DL.o_addRL, ↓DL.wret_tup, ↓DL.wret_lst, List.take_length, List.length_cons, List.length_nil, List.length_map, Int.cast_ofNat_Int, Bool.not_true, Bool.not_false, Int.reduceAdd, Int.reduceSub, Int.reduceMul, Int.reduceNeg, Int.reduceEq, Int.reduceLT, Int.reduceLE, Nat.reduceAdd, Nat.reduceSub, eq_self, not_true_eq_false, not_false_eq_true, false_implies, implies_true, true_implies, ff_Profile_own_cold, ff_Profile_own_pieces, fm_Profile_pieces, fm_Profile_accesses, fm_Profile_cold, isf_Profile_Profile, isf_Profile_0s, isf_Profile_0i, isf_Profile_0l, isf_Profile_0t, isf_Profile_0n, isf_Profile_0b, isf_Profile_0d])
section
variable {S R : Cells} {E : Xc → Cells → Prop} {Q : D → Cells → Prop} {QL : List D → Cells → Prop}
theorem nolT {p : MP.T} : noL (encT p) = true := by rw [encT, noL_tup]; simp only [noLL_cons, noL_int]; rfl
theorem nolTs {l : List MP.T} : noLL (l.map encT) = true := noLL_map fun _ _ => nolT
theorem nol_prof {c : Int} {J : List MP.T} : noL (prof c J) = true := by rw [prof, noL_obj]; simp only [noLL_cons, noL_int, noL_tup, nolTs]; rfl
theorem NolA.dip {S S' : Cells} {n k : Nat} (h : NolA S) (hp : Pond S' n k) (hf : Fr S S' n) : NolA S' := fun m c e => by
  by_cases q : m = n
  · subst q
    obtain ⟨a, b, d, e2, _⟩ := hp
    rw [e] at e2
    cases e2
    show noLL (pondL a b d) = true
    unfold pondL
    simp only [noLL_cons, noL_int]
    rfl
  · rw [hf.oth m q] at e
    exact h m c e
/-- all accesses but the cold ones -/
def tot (l : List MP.T) : Int := (l.map fun p => p.2.2 * (p.2.1 - p.1 + 1)).sum
theorem tot_byd {l : List MP.T} (h : ∀ p ∈ l, 1 ≤ p.1 ∧ p.1 ≤ p.2.1) : tot l = MP.byd l 0 := by
  unfold tot MP.byd
  congr 1
  refine List.map_congr_left fun p hp => ?_
  have := h p hp
  have e : MP.mx 0 (p.2.1 - MP.mx (p.1 - 1) 0) = p.2.1 - p.1 + 1 := by unfold MP.mx; split <;> split <;> omega
  rw [e]
theorem tot_fin {F : List MP.T} (ha : MP.Asc 1 F) : tot (MP.fin F) = tot F := by
  obtain ⟨h1, h2⟩ := MP.fin_ok (l := F) fun p hp => by have := ha.mem p hp; omega
  rw [tot_byd fun p hp => ⟨(h1.asc.mem p hp).1, (h1.asc.mem p hp).2.1⟩, tot_byd fun p hp => ⟨(ha.mem p hp).1, (ha.mem p hp).2.1⟩]
  exact MP.byd_eq (fun p hp => (h1.asc.mem p hp).2.1) (fun p hp => (ha.mem p hp).2.1) h2 0
theorem tot_le {l : List MP.T} {b t : Int} (h : ∀ p ∈ l, 1 ≤ p.1 ∧ p.1 ≤ p.2.1 ∧ 0 ≤ p.2.2 ∧ p.2.1 ≤ b ∧ p.2.2 ≤ t) : 0 ≤ tot l ∧ tot l ≤ l.length * (t * b) := by
  induction l with
  | nil => exact ⟨Int.le_refl _, by simp [tot]⟩
  | cons p l ih =>
    have ih := ih fun q hq => h q (List.mem_cons_of_mem _ hq)
    have hp := h p List.mem_cons_self
    have e : tot (p :: l) = p.2.2 * (p.2.1 - p.1 + 1) + tot l := rfl
    have m1 := Int.mul_nonneg hp.2.2.1 (show 0 ≤ p.2.1 - p.1 + 1 by omega)
    have m2 : p.2.2 * (p.2.1 - p.1 + 1) ≤ t * b := Int.mul_le_mul hp.2.2.2.2 (by omega) (by omega) (by omega)
    rw [e, List.length_cons, Int.natCast_add, Int.add_mul]
    omega
theorem accesses_ok {c : Int} {J : List MP.T} (h : ∀ p ∈ J, 1 ≤ p.1 ∧ p.1 ≤ p.2.1 ∧ 0 ≤ p.2.2 ∧ p.2.1 < 10 ^ 80 ∧ p.2.2 < 10 ^ 80) : g_Profile_accesses [prof c J] S = .ok (.int (c + tot J)) S := by
  refine wp_ok ?_
  push_cast [g_Profile_accesses, B_Profile_accesses, fc, fp]
  refine comp_map_wp encT (fun p => .int (p.2.2 * (p.2.1 - p.1 + 1))) J (fun p hp => ?_) ?_
  · have := h p hp
    unfold cStep
    push_cast [encT]
    exact mulB ⟨by omega, by omega⟩ ⟨by omega, by omega⟩
  push_cast
  rfl
theorem sum_ok {E' : Xc → Cells → Prop} {F : List MP.T} (h : ∀ p ∈ F, 1 ≤ p.1 ∧ p.1 ≤ p.2.1 ∧ 0 ≤ p.2.2 ∧ p.2.1 < 10 ^ 80 ∧ p.2.2 < 10 ^ 80) {x0 x1 x3 x4 x5 x6 x7 x8 x9 x10 x11 x12 x13 x14 x15 : Option D} (q : Q (.int (tot F)) S) :
    wp (cbE dSum (consM (frzE (lcL (itS (rd [x0, x1, some (.lst (F.map encT)), x3, x4, x5, x6, x7, x8, x9, x10, x11, x12, x13, x14, x15] 2)) (.tp [(.nm 13), (.nm 14), (.nm 15)]) (fun ρ => yesM) (fun ρ => (b2 dMul (rd ρ 15) (b2 dAdd (b2 dSub (rd ρ 14) (rd ρ 13)) (kon (.int 1))))) [x0, x1, some (.lst (F.map encT)), x3, x4, x5, x6, x7, x8, x9, x10, x11, x12, x13, x14, x15] [13, 14, 15])) nilA) S) Q E' := by
  push_cast
  refine comp_map_wp encT (fun p => .int (p.2.2 * (p.2.1 - p.1 + 1))) F (fun p hp => ?_) ?_
  · have := h p hp
    unfold cStep
    push_cast [encT]
    exact mulB ⟨by omega, by omega⟩ ⟨by omega, by omega⟩
  push_cast
  exact q
theorem encT_inj {p q : MP.T} (h : encT p = encT q) : p = q := by
  unfold encT at h
  injection h with h
  simp only [List.cons.injEq, D.int.injEq, and_true] at h
  exact Prod.ext h.1 (Prod.ext h.2.1 h.2.2)
theorem map_inj : ∀ {J K : List MP.T}, J.map encT = K.map encT → J = K
  | [], [], _ => rfl
  | [], _ :: _, h => by cases h
  | _ :: _, [], h => by cases h
  | p :: J, q :: K, h => by
    rw [List.map_cons, List.map_cons, List.cons.injEq] at h
    rw [encT_inj h.1, map_inj h.2]
theorem gs_T {p : MP.T} : Gs (encT p) := .tup fun d hd => by
  simp only [List.mem_cons, List.not_mem_nil, or_false] at hd
  rcases hd with rfl | rfl | rfl <;> exact .int
theorem gd_tup {l : List D} {n : Nat} (h : Gd (n + 1) (.lst l)) : Gd (n + 1) (.tup l) := by
  cases h with
  | lst q => exact .tup q
theorem dEq_T {J K : List MP.T} (hJ : Gd 2 (.lst (J.map encT))) (hK : Gd 2 (.lst (K.map encT))) : dEq (.tup (J.map encT)) (.tup (K.map encT)) S = some (.bl (decide (J = K))) := by
  by_cases h : J = K
  · subst h
    rw [decide_eq_true rfl]
    exact dEq_same (gd_tup hJ) (by decide)
  · rw [decide_eq_false h]
    exact dEq_ne (gd_tup hJ) (gd_tup hK) (by decide) (by decide) (.tup (Gs.map fun _ _ => gs_T)) (.tup (Gs.map fun _ _ => gs_T)) fun e => h (map_inj (by injection e))
theorem dEq_L {J K : List MP.T} (hJ : Gd 2 (.lst (J.map encT))) (hK : Gd 2 (.lst (K.map encT))) : dEq (.lst (J.map encT)) (.lst (K.map encT)) S = some (.bl (decide (J = K))) := by
  by_cases h : J = K
  · subst h
    rw [decide_eq_true rfl]
    exact dEq_same hJ (by decide)
  · rw [decide_eq_false h]
    exact dEq_ne hJ hK (by decide) (by decide) (.lst (Gs.map fun _ _ => gs_T)) (.lst (Gs.map fun _ _ => gs_T)) fun e => h (map_inj (by injection e))
theorem eqG {a b : Int} {J K : List MP.T} (hJ : Gd 2 (.lst (J.map encT))) (hK : Gd 2 (.lst (K.map encT))) : g_Profile___eq__ [prof a J, prof b K] S = .ok (.bl (decide (a = b ∧ J = K))) S := by
  refine wp_ok ?_
  have e := fun S => dEq_T (S := S) hJ hK
  push_cast [g_Profile___eq__, B_Profile___eq__, isi_prof, fc, fp, e]
  exact ⟨fun h => by by_cases k : J = K <;> simp [h, k], fun h => by simp [h]⟩
end

end K12
end
section
set_option maxHeartbeats 4000000
set_option exponentiation.threshold 3000
namespace K12
open PySem PySem.Spec L2 DL
open PyProof.Rows hiding St
open Lean in
local macro_rules | `(tactic| push_cast [$ts,*]) => `(tactic| simp only [↓DL.r0, ↓DL.r1, ↓DL.r2, ↓DL.r3, ↓DL.r4, ↓DL.r5, ↓DL.r6, ↓DL.r7, ↓DL.r8, ↓DL.r9, ↓DL.r10, ↓DL.r11, ↓DL.r12, ↓DL.r13, ↓DL.r14, ↓DL.r15, ↓DL.r16, ↓DL.r17, ↓DL.r18, ↓DL.r19, ↓DL.r20, ↓DL.r21, ↓DL.r22, ↓DL.r23, ↓DL.r24, ↓DL.r25, ↓DL.r26, ↓DL.r27, ↓DL.r28, ↓DL.r29, DL.s0, DL.s1, DL.s2, DL.s3, DL.s4, DL.s5, DL.s6, DL.s7, DL.s8, DL.s9, DL.s10, DL.s11, DL.s12, DL.s13, DL.s14, DL.s15, DL.s16, DL.s17, DL.s18, DL.s19, DL.s20, DL.s21, DL.s22, DL.s23, DL.s24, DL.s25, DL.s26, DL.s27, DL.s28, DL.s29, DL.startD_cons, DL.startD_nil, DL.startD_zero, ↓DL.w_ok, ↓DL.w_some, ↓DL.w_somec, ↓DL.w_bind, ↓DL.w_opt, ↓DL.w_chg, ↓DL.w_kon, ↓DL.w_calm, ↓DL.w_b2, ↓DL.w_b2L, ↓DL.w_b1, ↓DL.wB_bl, ↓DL.w_asB, ↓DL.w_b2T, ↓DL.w_chE, ↓DL.w_chT, ↓DL.w_not, ↓DL.w_val, ↓DL.w_notE, ↓DL.w_ifE, ↓DL.w_ifL, ↓DL.w_andM, ↓DL.w_orM, ↓DL.w_andE, ↓DL.w_orE, ↓DL.w_nil, ↓DL.w_cons, ↓DL.w_tup, ↓DL.w_lst, ↓DL.w_frz, ↓DL.w_new, ↓DL.w_cel, ↓DL.w_cb, ↓DL.w_cbL, ↓DL.w_call, ↓DL.w_callL, ↓DL.w_ar0, ↓DL.w_ar1, ↓DL.w_ar2, ↓DL.w_ar3, ↓DL.w_ar4, ↓DL.w_ar5, ↓DL.w_ar6, ↓DL.w_noO, ↓DL.w_smO, ↓DL.w_sl, ↓DL.w_slL, ↓DL.w_rev, ↓DL.w_step, ↓DL.w_isi, ↓DL.w_sets, ↓DL.w_lrg, ↓DL.w_mth, ↓DL.w_mth0, ↓DL.w_itS, ↓DL.w_itR1, ↓DL.w_itR2, ↓DL.w_itR3, ↓DL.w_itZ, ↓DL.w_itN, ↓DL.w_lc, ↓DL.w_nx, ↓DL.w_rt, ↓DL.w_seq, ↓DL.w_set, ↓DL.wPar_2, ↓DL.w_par, ↓DL.w_aug, ↓DL.w_sto, ↓DL.w_exp, ↓DL.w_ret, ↓DL.w_retN, ↓DL.w_nxS, ↓DL.w_ifS, ↓DL.w_for, ↓DL.w_asg, ↓DL.w_stk, ↓DL.w_body, ↓DL.w_bodyL, ↓DL.wret_non, ↓DL.wret_bl, ↓DL.wret_int, ↓DL.wret_str, ↓DL.wif_t, ↓DL.wif_f, ↓DL.wif_d, ↓DL.wif_n, ↓DL.wif_a, ↓DL.wif_o, DL.few0, DL.few1, DL.few2, DL.few3, DL.few4, DL.few5, DL.few6, DL.few7, DL.few8, DL.few9, DL.few10, true_and, and_true, ↓DL.a_nm, ↓DL.a_tp1, ↓DL.a_tp2, ↓DL.a_tp3, ↓DL.a_tp4, ↓DL.a_tp5, ↓DL.a_tpn, ↓DL.a_tpm, ↓DL.a_encP, DL.wipe_nil, DL.wipe_cons, DL.o_add, DL.o_sub, DL.o_neg, ↓DL.o_mul, ↓DL.o_div, ↓DL.o_mod, DL.o_pow, ↓DL.o_p10_3, ↓DL.o_p10_4, ↓DL.o_p10_6, ↓DL.o_p10_8, ↓DL.o_p10_9, ↓DL.o_p10_12, ↓DL.o_p10_15, ↓DL.o_p10_18, ↓DL.o_p10_20, ↓DL.o_p10_25, ↓DL.o_p10_26, ↓DL.o_p10_27, ↓DL.o_p10_28, ↓DL.o_p10_29, ↓DL.o_p10_30, ↓DL.o_p10_31, ↓DL.o_p10_36, ↓DL.o_p10_38, ↓DL.o_p10_40, ↓DL.o_p10_42, ↓DL.o_p10_44, ↓DL.o_p10_46, ↓DL.o_p10_48, ↓DL.o_p10_50, ↓DL.o_p10_60, ↓DL.o_p10_64, ↓DL.o_p10_70, ↓DL.o_p10_90, ↓DL.o_p10_99, ↓DL.o_p10_100, ↓DL.o_addS, ↓DL.o_addT, ↓DL.o_catL, ↓DL.o_addL, DL.o_lt, DL.o_le, DL.o_gt, DL.o_ge, DL.o_eqI, DL.o_neI, DL.o_eqS, DL.o_neS, DL.o_is, DL.o_isn, DL.n_non, DL.n_bl, DL.n_int, DL.n_str, DL.n_lst, DL.n_tup, DL.n_ref, DL.n_obj, DL.i_non_int, DL.i_non_bool, DL.i_non_str, DL.i_non_list, DL.i_non_tuple, DL.i_bl_int, DL.i_bl_bool, DL.i_bl_str, DL.i_bl_list, DL.i_bl_tuple, DL.i_int_int, DL.i_int_bool, DL.i_int_str, DL.i_int_list, DL.i_int_tuple, DL.i_str_int, DL.i_str_bool, DL.i_str_str, DL.i_str_list, DL.i_str_tuple, DL.i_lst_int, DL.i_lst_bool, DL.i_lst_str, DL.i_lst_list, DL.i_lst_tuple, DL.i_tup_int, DL.i_tup_bool, DL.i_tup_str, DL.i_tup_list, DL.i_tup_tuple, DL.t_non, DL.t_bl, DL.t_int, DL.t_lst, DL.t_tup, ↓DL.x_lst, ↓DL.x_tup, ↓DL.x_encP0, ↓DL.x_encP1, DL.ixn1_0, DL.ixn1_m1, DL.ixn2_0, DL.ixn2_1, DL.ixn2_m1, DL.ixn3_0, DL.ixn3_1, DL.ixn3_2, DL.ixn3_m1, DL.ixn4_0, DL.ixn4_1, DL.ixn4_2, DL.ixn4_3, DL.ixn4_m1, DL.ixn5_0, DL.ixn5_1, DL.ixn5_2, DL.ixn5_3, DL.ixn5_4, DL.ixn5_m1, DL.ixn6_0, DL.ixn6_1, DL.ixn6_2, DL.ixn6_3, DL.ixn6_4, DL.ixn6_5, DL.ixn6_m1, DL.ixn7_0, DL.ixn7_1, DL.ixn7_2, DL.ixn7_3, DL.ixn7_4, DL.ixn7_5, DL.ixn7_6, DL.ixn7_m1, DL.ixn8_0, DL.ixn8_1, DL.ixn8_2, DL.ixn8_3, DL.ixn8_4, DL.ixn8_5, DL.ixn8_6, DL.ixn8_7, DL.ixn8_m1, ↓DL.x1_0, ↓DL.x1_m1, ↓DL.x2_0, ↓DL.x2_1, ↓DL.x2_m1, ↓DL.x3_0, ↓DL.x3_1, ↓DL.x3_2, ↓DL.x3_m1, ↓DL.x4_0, ↓DL.x4_1, ↓DL.x4_2, ↓DL.x4_3, ↓DL.x4_m1, ↓DL.x5_0, ↓DL.x5_1, ↓DL.x5_2, ↓DL.x5_3, ↓DL.x5_4, ↓DL.x5_m1, ↓DL.x6_0, ↓DL.x6_1, ↓DL.x6_2, ↓DL.x6_3, ↓DL.x6_4, ↓DL.x6_5, ↓DL.x6_m1, ↓DL.x7_0, ↓DL.x7_1, ↓DL.x7_2, ↓DL.x7_3, ↓DL.x7_4, ↓DL.x7_5, ↓DL.x7_6, ↓DL.x7_m1, ↓DL.x8_0, ↓DL.x8_1, ↓DL.x8_2, ↓DL.x8_3, ↓DL.x8_4, ↓DL.x8_5, ↓DL.x8_6, ↓DL.x8_7, ↓DL.x8_m1, DL.c_abs, DL.c_max2, DL.c_min2, DL.c_int, DL.c_intb, DL.c_lenS, DL.c_lenT, DL.c_lenL, DL.c_listT, DL.c_listL, DL.c_tupT, DL.c_tupL, DL.c_sum, DL.c_sum0, DL.c_all, DL.c_any, DL.c_minP, DL.c_maxP, DL.c_sortP, DL.c_zip, DL.c_enum, DL.c_range1, DL.c_range2, DL.g_lst, DL.g_tup, DL.g_str, DL.p_int, DL.sq_lst, DL.sl_lst, DL.sl_tup, DL.sl_str, DL.slL_lst, DL.om_some, List.set_cons_zero, List.set_cons_succ, DL.m_tyL, DL.m_tyS, DL.m_ty, DL.m_app, DL.m_sto, DL.m_fzL, DL.m_fzI, DL.m_fzT, DL.m_fz, DL.x_ref, DL.c_lenR, DL.c_listR, DL.c_tupR, DL.sl_ref, DL.atL_new, DL.atL_new1, DL.atL_new2, DL.atL_old, DL.set_new, DL.set_new1, DL.set_new2, DL.set_old, DL.take_app, DL.app_app, DL.cons_app, DL.nil_app, DL.len_app1, DL.len_app2, DL.len_app3, DL.len_set, DL.seq_new, DL.seq_new1, DL.seq_new2, DL.seq_old, DL.ex_some, DL.fl_non, DL.fl_int, DL.fl_bl, DL.fl_str, DL.fl_tup, DL.fl_lst, DL.fl_obj, DL.fl_nil, DL.fl_cons, DL.fl_app, DL.fl_encP, Bool.and_self, Bool.and_true, Bool.true_and, List.set_set, ↓DL.w_yes, ↓DL.w_fld, ↓DL.w_mt, ↓DL.w_mtL, ↓DL.w_mt0, ↓DL.w_mt0L, ↓DL.w_ic, DL.isO_obj, ↓DL.w_make, ↓DL.w_b2M, ↓DL.w_b2MT, DL.c_intU, DL.c_intbU, ↓DL.w_mthL, ↓DL.w_uM, ↓DL.w_inv, ↓DL.w_bin_obj, ↓DL.w_bin_int, ↓DL.w_fldS, DL.m_fld, DL.atI_new, DL.putD, ↓DL.w_repL, ↓DL.w_isiC, ↓DL.w_par3, ↓DL.wPar3_3, DL.m_count, DL.wretL_new, DL.wret_new, ↓DL.c_setSort, DL.o_addI, DL.o_inS, DL.o_ninS, ↓DL.c_str, ↓DL.c_intSw, ↓DL.m_ext, DL.slt_l, DL.slt_t, DL.slt_r, ↓DL.c_dm, ↓DL.c_split, ↓DL.c_join, ↓DL.c_rep, ↓DL.x_str, ↓DL.o_catRL, ↓DL.o_addRL, ↓DL.wret_tup, ↓DL.wret_lst, List.take_length, List.length_cons, List.length_nil, List.length_map, Int.cast_ofNat_Int, Bool.not_true, Bool.not_false, Int.reduceAdd, Int.reduceSub, Int.reduceMul, Int.reduceNeg, Int.reduceEq, Int.reduceLT, Int.reduceLE, Nat.reduceAdd, Nat.reduceSub, eq_self, not_true_eq_false, not_false_eq_true, false_implies, implies_true, true_implies, ff_Profile_own_cold, ff_Profile_own_pieces, fm_Profile_pieces, fm_Profile_accesses, fm_Profile_cold, isf_Profile_Profile, isf_Profile_0s, isf_Profile_0i, isf_Profile_0l, isf_Profile_0t, isf_Profile_0n, isf_Profile_0b, isf_Profile_0d, $ts,*])
open Lean in
local macro_rules | `(tactic| push_cast) => `(tactic| simp only [↓DL.r0, ↓DL.r1, ↓DL.r2, ↓DL.r3, ↓DL.r4, ↓DL.r5, ↓DL.r6, ↓DL.r7, ↓DL.r8, ↓DL.r9, ↓DL.r10, ↓DL.r11, ↓DL.r12, ↓DL.r13, ↓DL.r14, ↓DL.r15, ↓DL.r16, ↓DL.r17, ↓DL.r18, ↓DL.r19, ↓DL.r20, ↓DL.r21, ↓DL.r22, ↓DL.r23, ↓DL.r24, ↓DL.r25, ↓DL.r26, ↓DL.r27, ↓DL.r28, ↓DL.r29, DL.s0, DL.s1, DL.s2, DL.s3, DL.s4, DL.s5, DL.s6, DL.s7, DL.s8, DL.s9, DL.s10, DL.s11, DL.s12, DL.s13, DL.s14, DL.s15, DL.s16, DL.s17, DL.s18, DL.s19, DL.s20, DL.s21, DL.s22, DL.s23, DL.s24, DL.s25, DL.s26, DL.s27, DL.s28, DL.s29, DL.startD_cons, DL.startD_nil, DL.startD_zero, ↓DL.w_ok, ↓DL.w_some, ↓DL.w_somec, ↓DL.w_bind, ↓DL.w_opt, ↓DL.w_chg, ↓DL.w_kon, ↓DL.w_calm, ↓DL.w_b2, ↓DL.w_b2L, ↓DL.w_b1, ↓DL.wB_bl, ↓DL.w_asB, ↓DL.w_b2T, ↓DL.w_chE, ↓DL.w_chT, ↓DL.w_not, ↓DL.w_val, ↓DL.w_notE, ↓DL.w_ifE, ↓DL.w_ifL, ↓DL.w_andM, ↓DL.w_orM, ↓DL.w_andE, ↓DL.w_orE, ↓DL.w_nil, ↓DL.w_cons, ↓DL.w_tup, ↓DL.w_lst, ↓DL.w_frz, ↓DL.w_new, ↓DL.w_cel, ↓DL.w_cb, ↓DL.w_cbL, ↓DL.w_call, ↓DL.w_callL, ↓DL.w_ar0, ↓DL.w_ar1, ↓DL.w_ar2, ↓DL.w_ar3, ↓DL.w_ar4, ↓DL.w_ar5, ↓DL.w_ar6, ↓DL.w_noO, ↓DL.w_smO, ↓DL.w_sl, ↓DL.w_slL, ↓DL.w_rev, ↓DL.w_step, ↓DL.w_isi, ↓DL.w_sets, ↓DL.w_lrg, ↓DL.w_mth, ↓DL.w_mth0, ↓DL.w_itS, ↓DL.w_itR1, ↓DL.w_itR2, ↓DL.w_itR3, ↓DL.w_itZ, ↓DL.w_itN, ↓DL.w_lc, ↓DL.w_nx, ↓DL.w_rt, ↓DL.w_seq, ↓DL.w_set, ↓DL.wPar_2, ↓DL.w_par, ↓DL.w_aug, ↓DL.w_sto, ↓DL.w_exp, ↓DL.w_ret, ↓DL.w_retN, ↓DL.w_nxS, ↓DL.w_ifS, ↓DL.w_for, ↓DL.w_asg, ↓DL.w_stk, ↓DL.w_body, ↓DL.w_bodyL, ↓DL.wret_non, ↓DL.wret_bl, ↓DL.wret_int, ↓DL.wret_str, ↓DL.wif_t, ↓DL.wif_f, ↓DL.wif_d, ↓DL.wif_n, ↓DL.wif_a, ↓DL.wif_o, DL.few0, DL.few1, DL.few2, DL.few3, DL.few4, DL.few5, DL.few6, DL.few7, DL.few8, DL.few9, DL.few10, true_and, and_true, ↓DL.a_nm, ↓DL.a_tp1, ↓DL.a_tp2, ↓DL.a_tp3, ↓DL.a_tp4, ↓DL.a_tp5, ↓DL.a_tpn, ↓DL.a_tpm, ↓DL.a_encP, DL.wipe_nil, DL.wipe_cons, DL.o_add, DL.o_sub, DL.o_neg, ↓DL.o_mul, ↓DL.o_div, ↓DL.o_mod, DL.o_pow, ↓DL.o_p10_3, ↓DL.o_p10_4, ↓DL.o_p10_6, ↓DL.o_p10_8, ↓DL.o_p10_9, ↓DL.o_p10_12, ↓DL.o_p10_15, ↓DL.o_p10_18, ↓DL.o_p10_20, ↓DL.o_p10_25, ↓DL.o_p10_26, ↓DL.o_p10_27, ↓DL.o_p10_28, ↓DL.o_p10_29, ↓DL.o_p10_30, ↓DL.o_p10_31, ↓DL.o_p10_36, ↓DL.o_p10_38, ↓DL.o_p10_40, ↓DL.o_p10_42, ↓DL.o_p10_44, ↓DL.o_p10_46, ↓DL.o_p10_48, ↓DL.o_p10_50, ↓DL.o_p10_60, ↓DL.o_p10_64, ↓DL.o_p10_70, ↓DL.o_p10_90, ↓DL.o_p10_99, ↓DL.o_p10_100, ↓DL.o_addS, ↓DL.o_addT, ↓DL.o_catL, ↓DL.o_addL, DL.o_lt, DL.o_le, DL.o_gt, DL.o_ge, DL.o_eqI, DL.o_neI, DL.o_eqS, DL.o_neS, DL.o_is, DL.o_isn, DL.n_non, DL.n_bl, DL.n_int, DL.n_str, DL.n_lst, DL.n_tup, DL.n_ref, DL.n_obj, DL.i_non_int, DL.i_non_bool, DL.i_non_str, DL.i_non_list, DL.i_non_tuple, DL.i_bl_int, DL.i_bl_bool, DL.i_bl_str, DL.i_bl_list, DL.i_bl_tuple, DL.i_int_int, DL.i_int_bool, DL.i_int_str, DL.i_int_list, DL.i_int_tuple, DL.i_str_int, DL.i_str_bool, DL.i_str_str, DL.i_str_list, DL.i_str_tuple, DL.i_lst_int, DL.i_lst_bool, DL.i_lst_str, DL.i_lst_list, DL.i_lst_tuple, DL.i_tup_int, DL.i_tup_bool, DL.i_tup_str, DL.i_tup_list, DL.i_tup_tuple, DL.t_non, DL.t_bl, DL.t_int, DL.t_lst, DL.t_tup, ↓DL.x_lst, ↓DL.x_tup, ↓DL.x_encP0, ↓DL.x_encP1, DL.ixn1_0, DL.ixn1_m1, DL.ixn2_0, DL.ixn2_1, DL.ixn2_m1, DL.ixn3_0, DL.ixn3_1, DL.ixn3_2, DL.ixn3_m1, DL.ixn4_0, DL.ixn4_1, DL.ixn4_2, DL.ixn4_3, DL.ixn4_m1, DL.ixn5_0, DL.ixn5_1, DL.ixn5_2, DL.ixn5_3, DL.ixn5_4, DL.ixn5_m1, DL.ixn6_0, DL.ixn6_1, DL.ixn6_2, DL.ixn6_3, DL.ixn6_4, DL.ixn6_5, DL.ixn6_m1, DL.ixn7_0, DL.ixn7_1, DL.ixn7_2, DL.ixn7_3, DL.ixn7_4, DL.ixn7_5, DL.ixn7_6, DL.ixn7_m1, DL.ixn8_0, DL.ixn8_1, DL.ixn8_2, DL.ixn8_3, DL.ixn8_4, DL.ixn8_5, DL.ixn8_6, DL.ixn8_7, DL.ixn8_m1, ↓DL.x1_0, ↓DL.x1_m1, ↓DL.x2_0, ↓DL.x2_1, ↓DL.x2_m1, ↓DL.x3_0, ↓DL.x3_1, ↓DL.x3_2, ↓DL.x3_m1, ↓DL.x4_0, ↓DL.x4_1, ↓DL.x4_2, ↓DL.x4_3, ↓DL.x4_m1, ↓DL.x5_0, ↓DL.x5_1, ↓DL.x5_2, ↓DL.x5_3, ↓DL.x5_4, ↓DL.x5_m1, ↓DL.x6_0, ↓DL.x6_1, ↓DL.x6_2, ↓DL.x6_3, ↓DL.x6_4, ↓DL.x6_5, ↓DL.x6_m1, ↓DL.x7_0, ↓DL.x7_1, ↓DL.x7_2, ↓DL.x7_3, ↓DL.x7_4, ↓DL.x7_5, ↓DL.x7_6, ↓DL.x7_m1, ↓DL.x8_0, ↓DL.x8_1, ↓DL.x8_2, ↓DL.x8_3, ↓DL.x8_4, ↓DL.x8_5, ↓DL.x8_6, ↓DL.x8_7, ↓DL.x8_m1, DL.c_abs, DL.c_max2, DL.c_min2, DL.c_int, DL.c_intb, DL.c_lenS, DL.c_lenT, DL.c_lenL, DL.c_listT, DL.c_listL, DL.c_tupT, DL.c_tupL, DL.c_sum, DL.c_sum0, DL.c_all, DL.c_any, DL.c_minP, DL.c_maxP, DL.c_sortP, DL.c_zip, DL.c_enum, DL.c_range1, DL.c_range2, DL.g_lst, DL.g_tup, DL.g_str, DL.p_int, DL.sq_lst, DL.sl_lst, DL.sl_tup, DL.sl_str, DL.slL_lst, DL.om_some, List.set_cons_zero, List.set_cons_succ, DL.m_tyL, DL.m_tyS, DL.m_ty, DL.m_app, DL.m_sto, DL.m_fzL, DL.m_fzI, DL.m_fzT, DL.m_fz, DL.x_ref, DL.c_lenR, DL.c_listR, DL.c_tupR, DL.sl_ref, DL.atL_new, DL.atL_new1, DL.atL_new2, DL.atL_old, DL.set_new, DL.set_new1, DL.set_new2, DL.set_old, DL.take_app, DL.app_app, DL.cons_app, DL.nil_app, DL.len_app1, DL.len_app2, DL.len_app3, DL.len_set, DL.seq_new, DL.seq_new1, DL.seq_new2, DL.seq_old, DL.ex_some, DL.fl_non, DL.fl_int, DL.fl_bl, DL.fl_str, DL.fl_tup, DL.fl_lst, DL.fl_obj, DL.fl_nil, DL.fl_cons, DL.fl_app, DL.fl_encP, Bool.and_self, Bool.and_true, Bool.true_and, List.set_set, ↓DL.w_yes, ↓DL.w_fld, ↓DL.w_mt, ↓DL.w_mtL, ↓DL.w_mt0, ↓DL.w_mt0L, ↓DL.w_ic, DL.isO_obj, ↓DL.w_make, ↓DL.w_b2M, ↓DL.w_b2MT, DL.c_intU, DL.c_intbU, ↓DL.w_mthL, ↓DL.w_uM, ↓DL.w_inv, ↓DL.w_bin_obj, ↓DL.w_bin_int, ↓DL.w_fldS, DL.m_fld, DL.atI_new, DL.putD, ↓DL.w_repL, ↓DL.w_isiC, ↓DL.w_par3, ↓DL.wPar3_3, DL.m_count, DL.wretL_new, DL.wret_new, ↓DL.c_setSort, DL.o_addI, DL.o_inS, DL.o_ninS, ↓DL.c_str, ↓DL.c_intSw, ↓DL.m_ext, DL.slt_l, DL.slt_t, DL.slt_r, ↓DL.c_dm, ↓DL.c_split, ↓DL.c_join, ↓DL.c_rep, ↓DL.x_str, ↓DL.o_catRL, ↓DL.o_addRL, ↓DL.wret_tup, ↓DL.wret_lst, List.take_length, List.length_cons, List.length_nil, List.length_map, Int.cast_ofNat_Int, Bool.not_true, Bool.not_false, Int.reduceAdd, Int.reduceSub, Int.reduceMul, Int.reduceNeg, Int.reduceEq, Int.reduceLT, Int.reduceLE, Nat.reduceAdd, Nat.reduceSub, eq_self, not_true_eq_false, not_false_eq_true, false_implies, implies_true, true_implies, ff_Profile_own_cold, ff_Profile_own_pieces, fm_Profile_pieces, fm_Profile_accesses, fm_Profile_cold, isf_Profile_Profile, isf_Profile_0s, isf_Profile_0i, isf_Profile_0l, isf_Profile_0t, isf_Profile_0n, isf_Profile_0b, isf_Profile_0d])
section
variable {S R : Cells} {E : Xc → Cells → Prop} {Q : D → Cells → Prop} {QL : List D → Cells → Prop}
theorem PG.fin {F : List MP.T} {b t : Int} {n : Nat} (ha : MP.Asc 1 F) (h : ∀ p ∈ F, p.2.1 ≤ b ∧ p.2.2 ≤ t) (hb : b ≤ 10 ^ 50) (ht : 0 ≤ t) (hn : F.length ≤ n) : PG (2 * n) t (MP.fin F) ∧ ∀ d, MP.cnt (MP.fin F) d = MP.cnt F d := by
  obtain ⟨h1, h2⟩ := MP.fin_ok (l := F) fun p hp => by have := ha.mem p hp; omega
  refine ⟨⟨h1, ?_, fun p hp => ?_, fun p hp => ?_, ht⟩, h2⟩
  · have := MP.fin_len F; omega
  · have := MP.fin_bound ha h p hp; omega
  · have := MP.fin_bound ha h p hp; omega
theorem eqOwnG {a b : Int} {J K : List MP.T} (hJ : Gd 2 (.lst (J.map encT))) (hK : Gd 2 (.lst (K.map encT))) : eqOwn 0 g_Profile___eq__ (prof a J) (prof b K) S = .ok (.bl (decide (a = b ∧ J = K))) S :=
  wp_ok (w_eq_obj (wp_of (eqG hJ hK) ⟨_, rfl, rfl, rfl⟩))
theorem neOwnG {a b : Int} {J K : List MP.T} (hJ : Gd 2 (.lst (J.map encT))) (hK : Gd 2 (.lst (K.map encT))) : neOwn 0 g_Profile___eq__ (prof a J) (prof b K) S = .ok (.bl (!decide (a = b ∧ J = K))) S :=
  wp_ok (w_ne_obj (wp_of (eqG hJ hK) ⟨_, rfl, rfl, rfl⟩))
theorem isC_acc {c : Int} {J : List MP.T} : isC NMf 0 "accesses" (prof c J) S = some () := fm_Profile_accesses
theorem dNe_refS {m : Nat} {b : Bool} {l : List D} (h : S[m]? = some ⟨b, .lst l⟩) (hg : Gd 2 (.lst l)) : dNe (.ref m) (.lst l) S = some (.bl false) := by
  rw [← dNe_same (S := S) hg (by decide)]
  show (eqP (.ref m) (.lst l) S).map (fun b => D.bl (!b)) = (eqP (.lst l) (.lst l) S).map (fun b => D.bl (!b))
  unfold eqP
  rw [vw_ref h (by have := gd_flat hg; rwa [flat_lst] at this)]
theorem repr_row {c x : Int} {J : List MP.T} (hc : 0 ≤ c ∧ c < 10 ^ 90) (hx : 0 ≤ x ∧ x < 10 ^ 90) (hJ : Gd 2 (.lst (J.map encT))) (hz : J.length ≤ 2000) : ∃ X, ∀ S, reprD [.lst [.int c, .lst (J.map encT), .int x]] S = some (.str X) :=
  repr_some (n := 3) (d := .lst [.int c, .lst (J.map encT), .int x]) (.lst fun d hd => by
      simp only [List.mem_cons, List.not_mem_nil, or_false] at hd
      rcases hd with e | e | e <;> subst e
      · exact .int (logOk_of (lt_pow (b := 300) hc.1 hc.2 (by decide)))
      · exact hJ
      · exact .int (logOk_of (lt_pow (b := 300) hx.1 hx.2 (by decide)))) (by decide) (by
      rw [wt_lst, wtL_cons, wtL_cons, wtL_cons, wtL_nil, wt_int, wt_int, wt_lst]
      have := wtL_le (f := encT) (l := J) (w := 5772) fun p _ => by
        unfold encT
        rw [wt_tup, wtL_cons, wtL_cons, wtL_cons, wtL_nil, wt_int, wt_int, wt_int]
        decide
      have := z24
      omega) (fun x e => by cases e) (fun x e => by cases e)
theorem right_wp {n k g : Nat} {F : List MP.T} {c b t : Int} (h : Pond S n k) (hk : k ≤ 10 ^ 10) (nol : NolA S) (hg : S[g]? = some ⟨true, .lst (F.map encT)⟩) (hgn : g ≠ n) (hc : 0 ≤ c) (hc2 : c ≤ 10 ^ 32) (ha : MP.Asc 1 F) (hF0 : ∀ p ∈ F, p.2.1 ≤ b ∧ p.2.2 ≤ t) (hb0 : 0 ≤ b) (hb : b ≤ 10 ^ 39) (ht0 : 0 ≤ t) (ht : t ≤ 10 ^ 39) (hz : F.length ≤ 100)
    (q : ∀ S', Pond S' n (k + 1000) → NolA S' → S'.length = S.length → Q (.bl true) S') : wp (g__law_right [.ref n, .int c, .ref g] S) Q E := by
  have zz := z24
  have hn := h.lt
  have hgl := (List.getElem?_eq_some_iff.mp hg).1
  obtain ⟨g1, c1⟩ := PG.fin ha hF0 (by omega) ht0 hz
  have gd := g1.gd (by omega)
  have hF : ∀ p ∈ F, 1 ≤ p.1 ∧ p.1 ≤ p.2.1 ∧ 0 ≤ p.2.2 ∧ p.2.1 < 10 ^ 80 ∧ p.2.2 < 10 ^ 80 := fun p hp => by
    have := ha.mem p hp
    have := hF0 p hp
    omega
  have gF : Gd 2 (.lst (F.map encT)) := gd_pieces fun p hp => by
    have := hF p hp
    omega
  have hJ : ∀ p ∈ MP.fin F, 1 ≤ p.1 ∧ p.1 ≤ p.2.1 ∧ 0 ≤ p.2.2 ∧ p.2.1 < 10 ^ 80 ∧ p.2.2 < 10 ^ 80 := fun p hp => by
    have := MP.fin_bound ha hF0 p hp
    omega
  have tf := tot_fin ha
  have tl := tot_le (l := F) (b := b) (t := t) fun p hp => by
    have := ha.mem p hp
    have := hF0 p hp
    omega
  have tb : t * b ≤ 10 ^ 39 * 10 ^ 39 := Int.mul_le_mul ht hb hb0 (by decide)
  have tb0 := Int.mul_nonneg ht0 hb0
  have tb2 : (F.length : Int) * (t * b) ≤ 100 * (10 ^ 39 * 10 ^ 39) := Int.mul_le_mul (by omega) tb tb0 (by decide)
  have ac := fun S => accesses_ok (S := S) (c := c) hJ
  rw [tf] at ac
  obtain ⟨X, hX⟩ := repr_row (c := c) (x := c + tot F) ⟨hc, by omega⟩ ⟨by omega, by omega⟩ gd (by have := g1.len; omega)
  push_cast [g__law_right, B__law_right]
  refine w_lend rfl hg (nol.s g) ?_
  push_cast [make_ok hc ha (show F.length ≤ 10000 by omega)]
  refine ⟨nol_prof, ?_⟩
  refine w_lend rfl hg (nol.s g) ?_
  push_cast [joinedL_ok ha (fun p hp => (hF p hp).2.2.2) (show F.length ≤ 10000 by omega)]
  refine ⟨nolTs, ?_⟩
  push_cast [seq_at hg]
  refine w_lend rfl hg (nol.s g) ?_
  refine sum_ok hF ⟨rfl, noL_int _, ?_⟩
  have p40 : (10 : Int) ^ Int.toNat 40 = 10000000000000000000000000000000000000000 := by decide
  have o40 : okPow 10 40 := ⟨by decide, by decide⟩
  push_cast [isC_cold, isC_pieces, cold_ok, pieces_ok, isC_acc, ac, hX, dNe_refS hg gF, p40, eq_true o40]
  have hg2 : ∀ X : Cell, (S ++ [X] : Cells)[g]? = some ⟨true, .lst (F.map encT)⟩ := fun X => by rw [List.getElem?_append_left hgl]; exact hg
  refine ⟨fl_ts, by have := g1.len; omega, F.map encT, by rw [seq_at (hg2 _)], ?_⟩
  rw [atL_of (hg2 _)]
  refine ⟨by rw [List.length_map]; omega, ?_⟩
  have hp1 : ∀ X Y : Cell, Pond ((S ++ [X]).set g Y) n k := fun X Y => h.appT.setT hgn
  have no1 : ∀ (l m : List D), noLL l = true → noLL m = true → NolA ((S ++ [(⟨true, .lst l⟩ : Cell)]).set g ⟨true, .lst m⟩) := fun l m hl hm => (nol.app (c := (⟨true, .lst l⟩ : Cell)) hl).set (c := (⟨true, .lst m⟩ : Cell)) hm
  have no2 := no1 (List.map encT (MP.fin F) ++ [D.tup [D.int 10000000000000000000000000000000000000000, D.int 10000000000000000000000000000000000000000, D.int 1]]) (F.map encT ++ [D.tup [D.int 1, D.int 1, D.int 1]])
    (by unfold noLL; rw [List.all_append, Bool.and_eq_true]; exact ⟨nolTs, by simp [noL_tup, noLL, noL_int]⟩) (by unfold noLL; rw [List.all_append, Bool.and_eq_true]; exact ⟨nolTs, by simp [noL_tup, noLL, noL_int]⟩)
  have hp2 := hp1 ⟨true, .lst (List.map encT (MP.fin F) ++ [D.tup [D.int 10000000000000000000000000000000000000000, D.int 10000000000000000000000000000000000000000, D.int 1]])⟩ ⟨true, .lst (F.map encT ++ [D.tup [D.int 1, D.int 1, D.int 1]])⟩
  have hl1 : ∀ X Y : Cell, ((S ++ [X]).set g Y).length = S.length + 1 := fun X Y => by rw [List.length_set, List.length_append]; rfl
  have hl2 := hl1 ⟨true, .lst (List.map encT (MP.fin F) ++ [D.tup [D.int 10000000000000000000000000000000000000000, D.int 10000000000000000000000000000000000000000, D.int 1]])⟩ ⟨true, .lst (F.map encT ++ [D.tup [D.int 1, D.int 1, D.int 1]])⟩
  clear hl1 no1 hp1
  generalize List.set (S ++ [_]) g _ = T at hp2 no2 hl2 ⊢
  have dn := fun T => dNe_same (S := T) gd (by decide)
  push_cast [dn, isC_acc, ac, w_rangeI (i := 2) (by decide) (by omega)]
  refine for_wp (fun k : Nat => D.int k) (fun r ρ T => r.length ≤ 2 ∧ Pond T n (k + 200 * (2 - r.length)) ∧ NolA T ∧ T.length = S.length + 1 ∧ ∃ x7 x8, ρ = [some (.ref n), some (.int c), some (.ref g), some (prof c (MP.fin F)), some (.lst ((MP.fin F).map encT)), some (.lst (F.map encT)), some (.int (c + tot F)), x7, x8, none, none, none, none, none, none, none]) ?_ ?_ (List.range (Int.toNat 2)) _ _ ⟨by decide, hp2.mono (by omega), no2, hl2, _, _, rfl⟩
  · rintro j r ρ T ⟨hl, hp, no, hlen, x7, x8, rfl⟩
    simp only [List.length_cons] at hl hp
    push_cast [L1__law_right]
    refine halved_wp hp (by omega) ha hF0 (by omega) (by omega) fun G T1 hG hcnt hGl hGb hp hf => ?_
    have eG : MP.fin G = MP.fin F := by
      obtain ⟨u1, u2⟩ := MP.fin_ok (l := G) fun p hp => by have := hG.mem p hp; omega
      exact MP.canon_uniq u1 g1.can fun d => by rw [u2, hcnt, c1]
    push_cast [make_ok hc hG (show G.length ≤ 10000 by omega), eG, eqOwnG gd gd, neOwnG gd gd, isC_pieces, pieces_ok, dn]
    exact ⟨by omega, hp.mono (by omega), K12.NolA.dip no hp hf, by rw [hf.len]; exact hlen, _, _, rfl⟩
  · rintro ρ T ⟨hl, hp, no, hlen, x7, x8, rfl⟩
    simp only [List.length_nil] at hp
    push_cast
    refine near_wp hp (by omega) hc ha hF0 hb0 ht0 (by omega) (by omega) (by omega) fun L T1 hL hLl hp hf => ?_
    have no := K12.NolA.dip no hp hf
    have hlen : T1.length = S.length + 1 := by rw [hf.len]; exact hlen
    push_cast
    refine for_wp encN (fun r ρ T => T = T1 ∧ (∀ x ∈ r, Nr b t F.length c x) ∧ ∃ x8 x9 x10 x11, ρ = [some (.ref n), some (.int c), some (.ref g), some (prof c (MP.fin F)), some (.lst ((MP.fin F).map encT)), some (.lst (F.map encT)), some (.int (c + tot F)), x7, x8, x9, x10, x11, none, none, none, none]) ?_ ?_ L _ _ ⟨rfl, hL, _, _, _, _, rfl⟩
    · rintro x r ρ T ⟨rfl, hx, x8, x9, x10, x11, rfl⟩
      have x0 := hx x List.mem_cons_self
      have xz := x0.z
      have xb := x0.b
      have xc := x0.c0
      have xm : ∀ p ∈ x.2, p.2.1 < 10 ^ 80 ∧ p.2.2 < 10 ^ 80 := fun p hp => by have := xb p hp; omega
      obtain ⟨gK, cK⟩ := PG.fin (n := 101) x0.a xb (by omega) (by omega) (by omega)
      have gdK := gK.gd (by omega)
      have dl := fun T => dEq_L (S := T) gdK gd
      have n1 : ∀ T : Cells, dNe (.bl true) (.bl true) T = some (.bl false) := fun _ => by kernel_rfl
      have n2 : ∀ T : Cells, dNe (.bl false) (.bl false) T = some (.bl false) := fun _ => by kernel_rfl
      have m1 : ∀ T : Cells, dEq (.bl false) (.bl true) T = some (.bl false) := fun _ => by kernel_rfl
      have m2 : ∀ T : Cells, dEq (.bl true) (.bl false) T = some (.bl false) := fun _ => by kernel_rfl
      have eo := fun T => eqOwnG (S := T) (a := c) (b := x.1) gd gdK
      have no' := fun T => neOwnG (S := T) (a := c) (b := x.1) gd gdK
      have rs : ∀ y ∈ r, Nr b t F.length c y := fun y hy => hx y (List.mem_cons_of_mem _ hy)
      by_cases e1 : x.1 = c
      · by_cases e2 : MP.fin x.2 = MP.fin F
        · simp only [decide_eq_true (show c = x.1 ∧ MP.fin F = MP.fin x.2 from ⟨e1.symm, e2.symm⟩), decide_eq_true e2] at eo no' dl
          push_cast [L2__law_right, encN, joinedL_ok x0.a xm (show x.2.length ≤ 10000 by omega), make_ok xc x0.a (show x.2.length ≤ 10000 by omega), dl, eo, no', n1, n2, m1, m2]
          exact ⟨fun _ => ⟨rs, _, _, _, _, rfl⟩, fun z => absurd e1 z⟩
        · simp only [decide_eq_false (show ¬ (c = x.1 ∧ MP.fin F = MP.fin x.2) from fun z => e2 z.2.symm), decide_eq_false e2] at eo no' dl
          push_cast [L2__law_right, encN, joinedL_ok x0.a xm (show x.2.length ≤ 10000 by omega), make_ok xc x0.a (show x.2.length ≤ 10000 by omega), dl, eo, no', n1, n2, m1, m2]
          exact ⟨fun _ => ⟨rs, _, _, _, _, rfl⟩, fun z => absurd e1 z⟩
      · simp only [decide_eq_false (show ¬ (c = x.1 ∧ MP.fin F = MP.fin x.2) from fun z => e1 z.1.symm)] at eo no'
        push_cast [L2__law_right, encN, joinedL_ok x0.a xm (show x.2.length ≤ 10000 by omega), make_ok xc x0.a (show x.2.length ≤ 10000 by omega), dl, eo, no', n1, n2, m1, m2, e1]
        exact ⟨rs, _, _, _, _, rfl⟩
    · rintro ρ T ⟨rfl, _, x8, x9, x10, x11, rfl⟩
      push_cast
      have isn : ∀ {d : D}, (∃ t, tyName d = some t) → (∀ n, d ≠ .ref n) → isiCD tab_Profile d T = some (.bl false) → eqOwn 0 g_Profile___eq__ (prof c (MP.fin F)) d T = .ok (.bl false) T := fun {d} h1 h2 h3 => wp_ok (w_eq_plain h1 h2 (by
        show wp (g_Profile___eq__ [prof c (MP.fin F), d] T) _ _
        push_cast [g_Profile___eq__, B_Profile___eq__, h3]
        exact ⟨false, rfl, rfl⟩))
      have e0 : ∀ T : Cells, dEq (.lst []) (.lst []) T = some (.bl true) := fun _ => by kernel_rfl
      rw [← List.map_id [D.non, D.int c, D.lst (List.map encT (MP.fin F)), D.tup [D.int c, D.lst (List.map encT (MP.fin F))], D.str (Str.ofString ""), D.ext 0 []]]
      refine comp_fil_wp id (fun _ => false) (fun _ => .int 1) _ (fun d hd => ?_) ?_
      · have hs : eqOwn 0 g_Profile___eq__ (prof c (MP.fin F)) d T = .ok (.bl false) T := by
          simp only [List.mem_cons, List.not_mem_nil, or_false] at hd
          rcases hd with rfl | rfl | rfl | rfl | rfl | rfl
          · exact isn ⟨_, rfl⟩ (fun n z => nomatch z) rfl
          · exact isn ⟨_, rfl⟩ (fun n z => nomatch z) rfl
          · exact isn ⟨_, rfl⟩ (fun n z => nomatch z) rfl
          · exact isn ⟨_, rfl⟩ (fun n z => nomatch z) rfl
          · exact isn ⟨_, rfl⟩ (fun n z => nomatch z) rfl
          · exact isn ⟨_, rfl⟩ (fun n z => nomatch z) rfl
        unfold cStep
        push_cast [id, hs]
        rfl
      · have ef : ∀ l : List D, (l.filter fun _ => false).map (fun _ => D.int 1) = [] := fun l => by simp
        rw [ef]
        push_cast [e0]
        exact q _ ((hp.mono (by omega)).cutT hn) (no.take _) (by rw [List.length_take]; omega)
end

end K12
end
section
set_option maxHeartbeats 4000000
set_option exponentiation.threshold 3000
namespace K12
open PySem PySem.Spec L2 DL
open PyProof.Rows hiding St
open Lean in
local macro_rules | `(tactic| push_cast [$ts,*]) => `(tactic| simp only [↓DL.r0, ↓DL.r1, ↓DL.r2, ↓DL.r3, ↓DL.r4, ↓DL.r5, ↓DL.r6, ↓DL.r7, ↓DL.r8, ↓DL.r9, ↓DL.r10, ↓DL.r11, ↓DL.r12, ↓DL.r13, ↓DL.r14, ↓DL.r15, ↓DL.r16, ↓DL.r17, ↓DL.r18, ↓DL.r19, ↓DL.r20, ↓DL.r21, ↓DL.r22, ↓DL.r23, ↓DL.r24, ↓DL.r25, ↓DL.r26, ↓DL.r27, ↓DL.r28, ↓DL.r29, DL.s0, DL.s1, DL.s2, DL.s3, DL.s4, DL.s5, DL.s6, DL.s7, DL.s8, DL.s9, DL.s10, DL.s11, DL.s12, DL.s13, DL.s14, DL.s15, DL.s16, DL.s17, DL.s18, DL.s19, DL.s20, DL.s21, DL.s22, DL.s23, DL.s24, DL.s25, DL.s26, DL.s27, DL.s28, DL.s29, DL.startD_cons, DL.startD_nil, DL.startD_zero, ↓DL.w_ok, ↓DL.w_some, ↓DL.w_somec, ↓DL.w_bind, ↓DL.w_opt, ↓DL.w_chg, ↓DL.w_kon, ↓DL.w_calm, ↓DL.w_b2, ↓DL.w_b2L, ↓DL.w_b1, ↓DL.wB_bl, ↓DL.w_asB, ↓DL.w_b2T, ↓DL.w_chE, ↓DL.w_chT, ↓DL.w_not, ↓DL.w_val, ↓DL.w_notE, ↓DL.w_ifE, ↓DL.w_ifL, ↓DL.w_andM, ↓DL.w_orM, ↓DL.w_andE, ↓DL.w_orE, ↓DL.w_nil, ↓DL.w_cons, ↓DL.w_tup, ↓DL.w_lst, ↓DL.w_frz, ↓DL.w_new, ↓DL.w_cel, ↓DL.w_cb, ↓DL.w_cbL, ↓DL.w_call, ↓DL.w_callL, ↓DL.w_ar0, ↓DL.w_ar1, ↓DL.w_ar2, ↓DL.w_ar3, ↓DL.w_ar4, ↓DL.w_ar5, ↓DL.w_ar6, ↓DL.w_noO, ↓DL.w_smO, ↓DL.w_sl, ↓DL.w_slL, ↓DL.w_rev, ↓DL.w_step, ↓DL.w_isi, ↓DL.w_sets, ↓DL.w_lrg, ↓DL.w_mth, ↓DL.w_mth0, ↓DL.w_itS, ↓DL.w_itR1, ↓DL.w_itR2, ↓DL.w_itR3, ↓DL.w_itZ, ↓DL.w_itN, ↓DL.w_lc, ↓DL.w_nx, ↓DL.w_rt, ↓DL.w_seq, ↓DL.w_set, ↓DL.wPar_2, ↓DL.w_par, ↓DL.w_aug, ↓DL.w_sto, ↓DL.w_exp, ↓DL.w_ret, ↓DL.w_retN, ↓DL.w_nxS, ↓DL.w_ifS, ↓DL.w_for, ↓DL.w_asg, ↓DL.w_stk, ↓DL.w_body, ↓DL.w_bodyL, ↓DL.wret_non, ↓DL.wret_bl, ↓DL.wret_int, ↓DL.wret_str, ↓DL.wif_t, ↓DL.wif_f, ↓DL.wif_d, ↓DL.wif_n, ↓DL.wif_a, ↓DL.wif_o, DL.few0, DL.few1, DL.few2, DL.few3, DL.few4, DL.few5, DL.few6, DL.few7, DL.few8, DL.few9, DL.few10, true_and, and_true, ↓DL.a_nm, ↓DL.a_tp1, ↓DL.a_tp2, ↓DL.a_tp3, ↓DL.a_tp4, ↓DL.a_tp5, ↓DL.a_tpn, ↓DL.a_tpm, ↓DL.a_encP, DL.wipe_nil, DL.wipe_cons, DL.o_add, DL.o_sub, DL.o_neg, ↓DL.o_mul, ↓DL.o_div, ↓DL.o_mod, DL.o_pow, ↓DL.o_p10_3, ↓DL.o_p10_4, ↓DL.o_p10_6, ↓DL.o_p10_8, ↓DL.o_p10_9, ↓DL.o_p10_12, ↓DL.o_p10_15, ↓DL.o_p10_18, ↓DL.o_p10_20, ↓DL.o_p10_25, ↓DL.o_p10_26, ↓DL.o_p10_27, ↓DL.o_p10_28, ↓DL.o_p10_29, ↓DL.o_p10_30, ↓DL.o_p10_31, ↓DL.o_p10_36, ↓DL.o_p10_38, ↓DL.o_p10_40, ↓DL.o_p10_42, ↓DL.o_p10_44, ↓DL.o_p10_46, ↓DL.o_p10_48, ↓DL.o_p10_50, ↓DL.o_p10_60, ↓DL.o_p10_64, ↓DL.o_p10_70, ↓DL.o_p10_90, ↓DL.o_p10_99, ↓DL.o_p10_100, ↓DL.o_addS, ↓DL.o_addT, ↓DL.o_catL, ↓DL.o_addL, DL.o_lt, DL.o_le, DL.o_gt, DL.o_ge, DL.o_eqI, DL.o_neI, DL.o_eqS, DL.o_neS, DL.o_is, DL.o_isn, DL.n_non, DL.n_bl, DL.n_int, DL.n_str, DL.n_lst, DL.n_tup, DL.n_ref, DL.n_obj, DL.i_non_int, DL.i_non_bool, DL.i_non_str, DL.i_non_list, DL.i_non_tuple, DL.i_bl_int, DL.i_bl_bool, DL.i_bl_str, DL.i_bl_list, DL.i_bl_tuple, DL.i_int_int, DL.i_int_bool, DL.i_int_str, DL.i_int_list, DL.i_int_tuple, DL.i_str_int, DL.i_str_bool, DL.i_str_str, DL.i_str_list, DL.i_str_tuple, DL.i_lst_int, DL.i_lst_bool, DL.i_lst_str, DL.i_lst_list, DL.i_lst_tuple, DL.i_tup_int, DL.i_tup_bool, DL.i_tup_str, DL.i_tup_list, DL.i_tup_tuple, DL.t_non, DL.t_bl, DL.t_int, DL.t_lst, DL.t_tup, ↓DL.x_lst, ↓DL.x_tup, ↓DL.x_encP0, ↓DL.x_encP1, DL.ixn1_0, DL.ixn1_m1, DL.ixn2_0, DL.ixn2_1, DL.ixn2_m1, DL.ixn3_0, DL.ixn3_1, DL.ixn3_2, DL.ixn3_m1, DL.ixn4_0, DL.ixn4_1, DL.ixn4_2, DL.ixn4_3, DL.ixn4_m1, DL.ixn5_0, DL.ixn5_1, DL.ixn5_2, DL.ixn5_3, DL.ixn5_4, DL.ixn5_m1, DL.ixn6_0, DL.ixn6_1, DL.ixn6_2, DL.ixn6_3, DL.ixn6_4, DL.ixn6_5, DL.ixn6_m1, DL.ixn7_0, DL.ixn7_1, DL.ixn7_2, DL.ixn7_3, DL.ixn7_4, DL.ixn7_5, DL.ixn7_6, DL.ixn7_m1, DL.ixn8_0, DL.ixn8_1, DL.ixn8_2, DL.ixn8_3, DL.ixn8_4, DL.ixn8_5, DL.ixn8_6, DL.ixn8_7, DL.ixn8_m1, ↓DL.x1_0, ↓DL.x1_m1, ↓DL.x2_0, ↓DL.x2_1, ↓DL.x2_m1, ↓DL.x3_0, ↓DL.x3_1, ↓DL.x3_2, ↓DL.x3_m1, ↓DL.x4_0, ↓DL.x4_1, ↓DL.x4_2, ↓DL.x4_3, ↓DL.x4_m1, ↓DL.x5_0, ↓DL.x5_1, ↓DL.x5_2, ↓DL.x5_3, ↓DL.x5_4, ↓DL.x5_m1, ↓DL.x6_0, ↓DL.x6_1, ↓DL.x6_2, ↓DL.x6_3, ↓DL.x6_4, ↓DL.x6_5, ↓DL.x6_m1, ↓DL.x7_0, ↓DL.x7_1, ↓DL.x7_2, ↓DL.x7_3, ↓DL.x7_4, ↓DL.x7_5, ↓DL.x7_6, ↓DL.x7_m1, ↓DL.x8_0, ↓DL.x8_1, ↓DL.x8_2, ↓DL.x8_3, ↓DL.x8_4, ↓DL.x8_5, ↓DL.x8_6, ↓DL.x8_7, ↓DL.x8_m1, DL.c_abs, DL.c_max2, DL.c_min2, DL.c_int, DL.c_intb, DL.c_lenS, DL.c_lenT, DL.c_lenL, DL.c_listT, DL.c_listL, DL.c_tupT, DL.c_tupL, DL.c_sum, DL.c_sum0, DL.c_all, DL.c_any, DL.c_minP, DL.c_maxP, DL.c_sortP, DL.c_zip, DL.c_enum, DL.c_range1, DL.c_range2, DL.g_lst, DL.g_tup, DL.g_str, DL.p_int, DL.sq_lst, DL.sl_lst, DL.sl_tup, DL.sl_str, DL.slL_lst, DL.om_some, List.set_cons_zero, List.set_cons_succ, DL.m_tyL, DL.m_tyS, DL.m_ty, DL.m_app, DL.m_sto, DL.m_fzL, DL.m_fzI, DL.m_fzT, DL.m_fz, DL.x_ref, DL.c_lenR, DL.c_listR, DL.c_tupR, DL.sl_ref, DL.atL_new, DL.atL_new1, DL.atL_new2, DL.atL_old, DL.set_new, DL.set_new1, DL.set_new2, DL.set_old, DL.take_app, DL.app_app, DL.cons_app, DL.nil_app, DL.len_app1, DL.len_app2, DL.len_app3, DL.len_set, DL.seq_new, DL.seq_new1, DL.seq_new2, DL.seq_old, DL.ex_some, DL.fl_non, DL.fl_int, DL.fl_bl, DL.fl_str, DL.fl_tup, DL.fl_lst, DL.fl_obj, DL.fl_nil, DL.fl_cons, DL.fl_app, DL.fl_encP, Bool.and_self, Bool.and_true, Bool.true_and, List.set_set, ↓DL.w_yes, ↓DL.w_fld, ↓DL.w_mt, ↓DL.w_mtL, ↓DL.w_mt0, ↓DL.w_mt0L, ↓DL.w_ic, DL.isO_obj, ↓DL.w_make, ↓DL.w_b2M, ↓DL.w_b2MT, DL.c_intU, DL.c_intbU, ↓DL.w_mthL, ↓DL.w_uM, ↓DL.w_inv, ↓DL.w_bin_obj, ↓DL.w_bin_int, ↓DL.w_fldS, DL.m_fld, DL.atI_new, DL.putD, ↓DL.w_repL, ↓DL.w_isiC, ↓DL.w_par3, ↓DL.wPar3_3, DL.m_count, DL.wretL_new, DL.wret_new, ↓DL.c_setSort, DL.o_addI, DL.o_inS, DL.o_ninS, ↓DL.c_str, ↓DL.c_intSw, ↓DL.m_ext, DL.slt_l, DL.slt_t, DL.slt_r, ↓DL.c_dm, ↓DL.c_split, ↓DL.c_join, ↓DL.c_rep, ↓DL.x_str, ↓DL.o_catRL, ↓DL.o_addRL, ↓DL.wret_tup, ↓DL.wret_lst, List.take_length, List.length_cons, List.length_nil, List.length_map, Int.cast_ofNat_Int, Bool.not_true, Bool.not_false, Int.reduceAdd, Int.reduceSub, Int.reduceMul, Int.reduceNeg, Int.reduceEq, Int.reduceLT, Int.reduceLE, Nat.reduceAdd, Nat.reduceSub, eq_self, not_true_eq_false, not_false_eq_true, false_implies, implies_true, true_implies, ff_Profile_own_cold, ff_Profile_own_pieces, fm_Profile_pieces, fm_Profile_accesses, fm_Profile_cold, isf_Profile_Profile, isf_Profile_0s, isf_Profile_0i, isf_Profile_0l, isf_Profile_0t, isf_Profile_0n, isf_Profile_0b, isf_Profile_0d, $ts,*])
open Lean in
local macro_rules | `(tactic| push_cast) => `(tactic| simp only [↓DL.r0, ↓DL.r1, ↓DL.r2, ↓DL.r3, ↓DL.r4, ↓DL.r5, ↓DL.r6, ↓DL.r7, ↓DL.r8, ↓DL.r9, ↓DL.r10, ↓DL.r11, ↓DL.r12, ↓DL.r13, ↓DL.r14, ↓DL.r15, ↓DL.r16, ↓DL.r17, ↓DL.r18, ↓DL.r19, ↓DL.r20, ↓DL.r21, ↓DL.r22, ↓DL.r23, ↓DL.r24, ↓DL.r25, ↓DL.r26, ↓DL.r27, ↓DL.r28, ↓DL.r29, DL.s0, DL.s1, DL.s2, DL.s3, DL.s4, DL.s5, DL.s6, DL.s7, DL.s8, DL.s9, DL.s10, DL.s11, DL.s12, DL.s13, DL.s14, DL.s15, DL.s16, DL.s17, DL.s18, DL.s19, DL.s20, DL.s21, DL.s22, DL.s23, DL.s24, DL.s25, DL.s26, DL.s27, DL.s28, DL.s29, DL.startD_cons, DL.startD_nil, DL.startD_zero, ↓DL.w_ok, ↓DL.w_some, ↓DL.w_somec, ↓DL.w_bind, ↓DL.w_opt, ↓DL.w_chg, ↓DL.w_kon, ↓DL.w_calm, ↓DL.w_b2, ↓DL.w_b2L, ↓DL.w_b1, ↓DL.wB_bl, ↓DL.w_asB, ↓DL.w_b2T, ↓DL.w_chE, ↓DL.w_chT, ↓DL.w_not, ↓DL.w_val, ↓DL.w_notE, ↓DL.w_ifE, ↓DL.w_ifL, ↓DL.w_andM, ↓DL.w_orM, ↓DL.w_andE, ↓DL.w_orE, ↓DL.w_nil, ↓DL.w_cons, ↓DL.w_tup, ↓DL.w_lst, ↓DL.w_frz, ↓DL.w_new, ↓DL.w_cel, ↓DL.w_cb, ↓DL.w_cbL, ↓DL.w_call, ↓DL.w_callL, ↓DL.w_ar0, ↓DL.w_ar1, ↓DL.w_ar2, ↓DL.w_ar3, ↓DL.w_ar4, ↓DL.w_ar5, ↓DL.w_ar6, ↓DL.w_noO, ↓DL.w_smO, ↓DL.w_sl, ↓DL.w_slL, ↓DL.w_rev, ↓DL.w_step, ↓DL.w_isi, ↓DL.w_sets, ↓DL.w_lrg, ↓DL.w_mth, ↓DL.w_mth0, ↓DL.w_itS, ↓DL.w_itR1, ↓DL.w_itR2, ↓DL.w_itR3, ↓DL.w_itZ, ↓DL.w_itN, ↓DL.w_lc, ↓DL.w_nx, ↓DL.w_rt, ↓DL.w_seq, ↓DL.w_set, ↓DL.wPar_2, ↓DL.w_par, ↓DL.w_aug, ↓DL.w_sto, ↓DL.w_exp, ↓DL.w_ret, ↓DL.w_retN, ↓DL.w_nxS, ↓DL.w_ifS, ↓DL.w_for, ↓DL.w_asg, ↓DL.w_stk, ↓DL.w_body, ↓DL.w_bodyL, ↓DL.wret_non, ↓DL.wret_bl, ↓DL.wret_int, ↓DL.wret_str, ↓DL.wif_t, ↓DL.wif_f, ↓DL.wif_d, ↓DL.wif_n, ↓DL.wif_a, ↓DL.wif_o, DL.few0, DL.few1, DL.few2, DL.few3, DL.few4, DL.few5, DL.few6, DL.few7, DL.few8, DL.few9, DL.few10, true_and, and_true, ↓DL.a_nm, ↓DL.a_tp1, ↓DL.a_tp2, ↓DL.a_tp3, ↓DL.a_tp4, ↓DL.a_tp5, ↓DL.a_tpn, ↓DL.a_tpm, ↓DL.a_encP, DL.wipe_nil, DL.wipe_cons, DL.o_add, DL.o_sub, DL.o_neg, ↓DL.o_mul, ↓DL.o_div, ↓DL.o_mod, DL.o_pow, ↓DL.o_p10_3, ↓DL.o_p10_4, ↓DL.o_p10_6, ↓DL.o_p10_8, ↓DL.o_p10_9, ↓DL.o_p10_12, ↓DL.o_p10_15, ↓DL.o_p10_18, ↓DL.o_p10_20, ↓DL.o_p10_25, ↓DL.o_p10_26, ↓DL.o_p10_27, ↓DL.o_p10_28, ↓DL.o_p10_29, ↓DL.o_p10_30, ↓DL.o_p10_31, ↓DL.o_p10_36, ↓DL.o_p10_38, ↓DL.o_p10_40, ↓DL.o_p10_42, ↓DL.o_p10_44, ↓DL.o_p10_46, ↓DL.o_p10_48, ↓DL.o_p10_50, ↓DL.o_p10_60, ↓DL.o_p10_64, ↓DL.o_p10_70, ↓DL.o_p10_90, ↓DL.o_p10_99, ↓DL.o_p10_100, ↓DL.o_addS, ↓DL.o_addT, ↓DL.o_catL, ↓DL.o_addL, DL.o_lt, DL.o_le, DL.o_gt, DL.o_ge, DL.o_eqI, DL.o_neI, DL.o_eqS, DL.o_neS, DL.o_is, DL.o_isn, DL.n_non, DL.n_bl, DL.n_int, DL.n_str, DL.n_lst, DL.n_tup, DL.n_ref, DL.n_obj, DL.i_non_int, DL.i_non_bool, DL.i_non_str, DL.i_non_list, DL.i_non_tuple, DL.i_bl_int, DL.i_bl_bool, DL.i_bl_str, DL.i_bl_list, DL.i_bl_tuple, DL.i_int_int, DL.i_int_bool, DL.i_int_str, DL.i_int_list, DL.i_int_tuple, DL.i_str_int, DL.i_str_bool, DL.i_str_str, DL.i_str_list, DL.i_str_tuple, DL.i_lst_int, DL.i_lst_bool, DL.i_lst_str, DL.i_lst_list, DL.i_lst_tuple, DL.i_tup_int, DL.i_tup_bool, DL.i_tup_str, DL.i_tup_list, DL.i_tup_tuple, DL.t_non, DL.t_bl, DL.t_int, DL.t_lst, DL.t_tup, ↓DL.x_lst, ↓DL.x_tup, ↓DL.x_encP0, ↓DL.x_encP1, DL.ixn1_0, DL.ixn1_m1, DL.ixn2_0, DL.ixn2_1, DL.ixn2_m1, DL.ixn3_0, DL.ixn3_1, DL.ixn3_2, DL.ixn3_m1, DL.ixn4_0, DL.ixn4_1, DL.ixn4_2, DL.ixn4_3, DL.ixn4_m1, DL.ixn5_0, DL.ixn5_1, DL.ixn5_2, DL.ixn5_3, DL.ixn5_4, DL.ixn5_m1, DL.ixn6_0, DL.ixn6_1, DL.ixn6_2, DL.ixn6_3, DL.ixn6_4, DL.ixn6_5, DL.ixn6_m1, DL.ixn7_0, DL.ixn7_1, DL.ixn7_2, DL.ixn7_3, DL.ixn7_4, DL.ixn7_5, DL.ixn7_6, DL.ixn7_m1, DL.ixn8_0, DL.ixn8_1, DL.ixn8_2, DL.ixn8_3, DL.ixn8_4, DL.ixn8_5, DL.ixn8_6, DL.ixn8_7, DL.ixn8_m1, ↓DL.x1_0, ↓DL.x1_m1, ↓DL.x2_0, ↓DL.x2_1, ↓DL.x2_m1, ↓DL.x3_0, ↓DL.x3_1, ↓DL.x3_2, ↓DL.x3_m1, ↓DL.x4_0, ↓DL.x4_1, ↓DL.x4_2, ↓DL.x4_3, ↓DL.x4_m1, ↓DL.x5_0, ↓DL.x5_1, ↓DL.x5_2, ↓DL.x5_3, ↓DL.x5_4, ↓DL.x5_m1, ↓DL.x6_0, ↓DL.x6_1, ↓DL.x6_2, ↓DL.x6_3, ↓DL.x6_4, ↓DL.x6_5, ↓DL.x6_m1, ↓DL.x7_0, ↓DL.x7_1, ↓DL.x7_2, ↓DL.x7_3, ↓DL.x7_4, ↓DL.x7_5, ↓DL.x7_6, ↓DL.x7_m1, ↓DL.x8_0, ↓DL.x8_1, ↓DL.x8_2, ↓DL.x8_3, ↓DL.x8_4, ↓DL.x8_5, ↓DL.x8_6, ↓DL.x8_7, ↓DL.x8_m1, DL.c_abs, DL.c_max2, DL.c_min2, DL.c_int, DL.c_intb, DL.c_lenS, DL.c_lenT, DL.c_lenL, DL.c_listT, DL.c_listL, DL.c_tupT, DL.c_tupL, DL.c_sum, DL.c_sum0, DL.c_all, DL.c_any, DL.c_minP, DL.c_maxP, DL.c_sortP, DL.c_zip, DL.c_enum, DL.c_range1, DL.c_range2, DL.g_lst, DL.g_tup, DL.g_str, DL.p_int, DL.sq_lst, DL.sl_lst, DL.sl_tup, DL.sl_str, DL.slL_lst, DL.om_some, List.set_cons_zero, List.set_cons_succ, DL.m_tyL, DL.m_tyS, DL.m_ty, DL.m_app, DL.m_sto, DL.m_fzL, DL.m_fzI, DL.m_fzT, DL.m_fz, DL.x_ref, DL.c_lenR, DL.c_listR, DL.c_tupR, DL.sl_ref, DL.atL_new, DL.atL_new1, DL.atL_new2, DL.atL_old, DL.set_new, DL.set_new1, DL.set_new2, DL.set_old, DL.take_app, DL.app_app, DL.cons_app, DL.nil_app, DL.len_app1, DL.len_app2, DL.len_app3, DL.len_set, DL.seq_new, DL.seq_new1, DL.seq_new2, DL.seq_old, DL.ex_some, DL.fl_non, DL.fl_int, DL.fl_bl, DL.fl_str, DL.fl_tup, DL.fl_lst, DL.fl_obj, DL.fl_nil, DL.fl_cons, DL.fl_app, DL.fl_encP, Bool.and_self, Bool.and_true, Bool.true_and, List.set_set, ↓DL.w_yes, ↓DL.w_fld, ↓DL.w_mt, ↓DL.w_mtL, ↓DL.w_mt0, ↓DL.w_mt0L, ↓DL.w_ic, DL.isO_obj, ↓DL.w_make, ↓DL.w_b2M, ↓DL.w_b2MT, DL.c_intU, DL.c_intbU, ↓DL.w_mthL, ↓DL.w_uM, ↓DL.w_inv, ↓DL.w_bin_obj, ↓DL.w_bin_int, ↓DL.w_fldS, DL.m_fld, DL.atI_new, DL.putD, ↓DL.w_repL, ↓DL.w_isiC, ↓DL.w_par3, ↓DL.wPar3_3, DL.m_count, DL.wretL_new, DL.wret_new, ↓DL.c_setSort, DL.o_addI, DL.o_inS, DL.o_ninS, ↓DL.c_str, ↓DL.c_intSw, ↓DL.m_ext, DL.slt_l, DL.slt_t, DL.slt_r, ↓DL.c_dm, ↓DL.c_split, ↓DL.c_join, ↓DL.c_rep, ↓DL.x_str, ↓DL.o_catRL, ↓DL.o_addRL, ↓DL.wret_tup, ↓DL.wret_lst, List.take_length, List.length_cons, List.length_nil, List.length_map, Int.cast_ofNat_Int, Bool.not_true, Bool.not_false, Int.reduceAdd, Int.reduceSub, Int.reduceMul, Int.reduceNeg, Int.reduceEq, Int.reduceLT, Int.reduceLE, Nat.reduceAdd, Nat.reduceSub, eq_self, not_true_eq_false, not_false_eq_true, false_implies, implies_true, true_implies, ff_Profile_own_cold, ff_Profile_own_pieces, fm_Profile_pieces, fm_Profile_accesses, fm_Profile_cold, isf_Profile_Profile, isf_Profile_0s, isf_Profile_0i, isf_Profile_0l, isf_Profile_0t, isf_Profile_0n, isf_Profile_0b, isf_Profile_0d])
section
variable {S R : Cells} {E : Xc → Cells → Prop} {Q : D → Cells → Prop} {QL : List D → Cells → Prop}
theorem nol_pond {S : Cells} {l : List D} (h : ∀ S : Cells, Pond (S ++ [⟨true, .lst l⟩]) S.length 0) : noLL l = true := by
  obtain ⟨a, b, c, e, _⟩ := h []
  have e : some (⟨true, .lst l⟩ : Cell) = some ⟨true, .lst (pondL a b c)⟩ := e
  cases e
  unfold pondL
  simp only [noLL_cons, noL_int]
  rfl
theorem at_new {S : Cells} {c : Cell} : (S ++ [c])[S.length]? = some c := by simp
theorem law_true (ns : List Int) (h : ns.length ≤ 63) : ∃ S, g_law [.lst (ns.map .int)] [] = .ok (.bl true) S := by
  have zz := z24
  suffices hw : wp (g_law [.lst (ns.map .int)] []) (fun d _ => d = .bl true) noE by
    obtain ⟨d, S, e, rfl⟩ := wp_ex hw
    exact ⟨S, e⟩
  push_cast [g_law, B_law]
  have hm : 0 ≤ (if (if (ns.length : Int) < 6 then (ns.length : Int) else 6) > 1 then (if (ns.length : Int) < 6 then (ns.length : Int) else 6) else 1) ∧ (if (if (ns.length : Int) < 6 then (ns.length : Int) else 6) > 1 then (if (ns.length : Int) < 6 then (ns.length : Int) else 6) else 1) ≤ 6 := by
    split <;> split <;> omega
  generalize (if (if (ns.length : Int) < 6 then (ns.length : Int) else 6) > 1 then (if (ns.length : Int) < 6 then (ns.length : Int) else 6) else 1) = m at *
  push_cast [w_rangeI hm.1 (by omega)]
  refine for_wp (fun k : Nat => D.int k) (fun r ρ S2 => (∀ k ∈ r, k < 6) ∧ NolA S2 ∧ ∃ x1 x2 x3 x4 x5, ρ = [some (.lst (ns.map .int)), x1, x2, x3, x4, x5, none, none]) ?_ ?_ _ _ _ ⟨fun k hk => by rw [List.mem_range] at hk; omega, NolA.nil, _, _, _, _, _, rfl⟩
  · rintro i r ρ S2 ⟨hi, no, x1, x2, x3, x4, x5, rfl⟩
    have hi0 := hi i List.mem_cons_self
    push_cast [L2_law]
    refine pond_wp (by omega) (by omega) fun l hl hp => ?_
    push_cast [hl, w_rangeI (i := 4) (by decide) (by omega)]
    have no0 := NolA.app (c := (⟨true, .lst l⟩ : Cell)) no (nol_pond (S := []) hp)
    have hp0 := (hp S2).mono (j := 1000) (by omega)
    generalize S2 ++ [(⟨true, .lst l⟩ : Cell)] = S3 at *
    generalize S2.length = pn at *
    refine for_wp (fun k : Nat => D.int k) (fun r3 ρ S3 => r3.length ≤ 4 ∧ Pond S3 pn (1000 + 3000 * (4 - r3.length)) ∧ NolA S3 ∧ ∃ x3 x4 x5, ρ = [some (.lst (ns.map .int)), some (.int i), some (.ref pn), x3, x4, x5, none, none]) ?_ ?_ (List.range (Int.toNat 4)) _ _ ⟨by decide, hp0.mono (by omega), no0, _, _, _, rfl⟩
    · rintro j r3 ρ S3 ⟨hl4, hp, no, x3, x4, x5, rfl⟩
      rw [List.length_cons] at hl4 hp
      push_cast [L1_law]
      have hj0 := Int.emod_nonneg (j : Int) (b := 2) (by decide)
      have hj1 := Int.emod_lt_of_pos (j : Int) (b := 2) (by decide)
      have key : ∀ w : Int, 1 ≤ w → w ≤ 10 ^ 30 → ∀ S3 : Cells, Pond S3 pn (1000 + 3000 * (4 - (r3.length + 1))) → NolA S3 → True := fun _ _ _ _ _ _ => trivial
      refine at_2 hj0 hj1 (fun ej => ?_) (fun ej => ?_)
      · push_cast
        refine dip_wp0 hp (by omega) (by decide) (by decide) fun v1 S4 a0 a1 hp hf1 => ?_
        have no := K12.NolA.dip no hp hf1
        push_cast
        refine dip_wp0 hp (by omega) (by decide) (by decide) fun v2 S5 b0 b1 hp hf2 => ?_
        have no := K12.NolA.dip no hp hf2
        push_cast
        refine at_int2 b0 b1 fun c hc => ?_
        push_cast
        refine given_wp hp (by omega) (by decide) (by decide) fun F S6 ha hz hb hp hf => ?_
        have no := K12.NolA.dip no hp hf
        push_cast [fl_ts (l := F)]
        refine right_wp (b := 60) (t := 6) hp.appT (by omega) (NolA.app (c := (⟨true, .lst (F.map encT)⟩ : Cell)) no nolTs) at_new (by have := hp.lt; omega) (by omega) (by omega) ha (fun p hp => by have := hb p hp; omega) (by decide) (by decide) (by decide) (by decide) (by omega) fun S7 hp no hl7 => ?_
        push_cast
        exact ⟨by omega, hp.mono (by omega), no, _, _, _, rfl⟩
      · push_cast
        refine dip_wp0 hp (by omega) (by decide) (by decide) fun v1 S4 a0 a1 hp hf1 => ?_
        have no := K12.NolA.dip no hp hf1
        push_cast
        refine dip_wp0 hp (by omega) (by decide) (by decide) fun v2 S5 b0 b1 hp hf2 => ?_
        have no := K12.NolA.dip no hp hf2
        push_cast
        refine at_int2 b0 b1 fun c hc => ?_
        push_cast
        refine given_wp hp (by omega) (by decide) (by decide) fun F S6 ha hz hb hp hf => ?_
        have no := K12.NolA.dip no hp hf
        push_cast [fl_ts (l := F)]
        refine right_wp (b := 12 * 10 ^ 30 + 12) (t := 10 ^ 30 + 2) hp.appT (by omega) (NolA.app (c := (⟨true, .lst (F.map encT)⟩ : Cell)) no nolTs) at_new (by have := hp.lt; omega) (by omega) (by omega) ha (fun p hp => by have := hb p hp; omega) (by decide) (by decide) (by decide) (by decide) (by omega) fun S7 hp no hl7 => ?_
        push_cast
        exact ⟨by omega, hp.mono (by omega), no, _, _, _, rfl⟩
    · rintro ρ S3 ⟨hl4, hp, no, x3, x4, x5, rfl⟩
      simp only [List.length_nil] at hp
      push_cast
      refine dip_wp0 hp (by omega) (by decide) (by decide) fun v1 S4 a0 a1 hp hf1 => ?_
      have no := K12.NolA.dip no hp hf1
      push_cast
      refine many_wp hp (by omega) (by omega) (by omega) fun F S6 ha hz hb hp hf => ?_
      have no := K12.NolA.dip no hp hf
      have nol := NolA.app (c := (⟨true, .lst (F.map encT)⟩ : Cell)) no nolTs
      push_cast [fl_ts (l := F)]
      refine ⟨fun hi0 => ?_, fun hi0 => ⟨fun k hk => hi k (List.mem_cons_of_mem _ hk), nol, _, _, _, _, _, rfl⟩⟩
      refine dip_wp hp (by omega) (by decide) (by decide) fun v S7 v0 v1 hp hf7 => ?_
      have no := K12.NolA.dip no hp hf7
      push_cast
      refine right_wp (g := S6.length) (F := F) (b := 505) (t := 3) hp.appT (by omega) (NolA.app (c := (⟨true, .lst (F.map encT)⟩ : Cell)) no nolTs) (by rw [← hf7.len]; exact at_new) (by have := hp.lt; have := hf7.len; omega) v0 (by omega) ha (fun p hp => by have := hb p hp; omega) (by decide) (by decide) (by decide) (by decide) (by omega) fun S8 hp no hl8 => ?_
      push_cast
      exact ⟨fun k hk => hi k (List.mem_cons_of_mem _ hk), no, _, _, _, _, _, rfl⟩
  · rintro ρ S2 ⟨_, no, x1, x2, x3, x4, x5, rfl⟩
    push_cast
    refine pond_wp (by omega) (by omega) fun l hl hp => ?_
    push_cast [hl]
    refine many_wp (hp S2) (by omega) (by omega) (by omega) fun F S6 ha hz hb hp hf => ?_
    have zF : F.length ≤ 10000 := by omega
    have bF : ∀ p ∈ F, p.2.1 < 10 ^ 80 ∧ p.2.2 < 10 ^ 80 := fun p hp => by have := hb p hp; omega
    obtain ⟨g1, c1⟩ := PG.fin (n := 200) ha (b := 1000) (t := 3) (fun p hp => by have := hb p hp; omega) (by decide) (by decide) (by omega)
    have gd := g1.gd (by decide)
    have f2 : MP.fin (MP.fin F) = MP.fin F := MP.fin_canon g1.can
    have zJ : (MP.fin F).length ≤ 10000 := by have := g1.len; omega
    have mk2 := fun S => make_ok (S := S) (c := 3) (l := MP.fin F) (by decide) g1.can.asc zJ
    rw [f2] at mk2
    have ac := fun S => accesses_ok (S := S) (c := 3) (J := MP.fin F) fun p hp => by
      have h1 := g1.can.asc.mem p hp
      have h2 := MP.fin_bound ha (b := 1000) (t := 3) (fun p hp => by have := hb p hp; omega) p hp
      omega
    have dn := fun T => dNe_same (S := T) gd (by decide)
    push_cast [fl_ts (l := F), seq_at at_new, joinedL_ok ha bF zF, make_ok (c := 3) (by decide) ha zF, mk2, eqOwnG gd gd, isC_pieces, pieces_ok, isC_acc, ac, dn]
    have a4 : MP.Asc 1 [((1 : Int), (2 : Int), (9 : Int)), (3, 4, 9), (7, 7, 2)] := ⟨by decide, by decide, by decide, by decide, by decide, by decide, by decide, by decide, by decide, trivial⟩
    have c4 : MP.Canon 1 [((1 : Int), (4 : Int), (9 : Int)), (7, 7, 2)] := ⟨by decide, by decide, by decide, fun s e es => by simp at e; subst e; exact absurd es (by decide), by decide, by decide, by decide, fun s e => by simp at e, trivial⟩
    have f4 : MP.fin [((1 : Int), (2 : Int), (9 : Int)), (3, 4, 9), (7, 7, 2)] = [((1 : Int), (4 : Int), (9 : Int)), (7, 7, 2)] := by
      obtain ⟨u1, u2⟩ := MP.fin_ok (l := [((1 : Int), (2 : Int), (9 : Int)), (3, 4, 9), (7, 7, 2)]) fun p hp => by have := a4.mem p hp; omega
      refine MP.canon_uniq u1 c4 fun d => ?_
      rw [u2]
      simp only [MP.cnt_cons, MP.cnt_nil, MP.inT_iff]
      (repeat' split) <;> omega
    have mk4 : ∀ S, makeD NMf 0 3 g_Profile___init__ [.int 4, .lst [.tup [.int 1, .int 2, .int 9], .tup [.int 3, .int 4, .int 9], .tup [.int 7, .int 7, .int 2]]] S = .ok (prof 4 [(1, 4, 9), (7, 7, 2)]) S := fun S => by
      have := make_ok (S := S) (c := 4) (l := [(1, 2, 9), (3, 4, 9), (7, 7, 2)]) (by decide) a4 (by decide)
      rwa [f4] at this
    have ac4 := fun S => accesses_ok (S := S) (c := 4) (J := [(1, 4, 9), (7, 7, 2)]) fun p hp => by
      simp only [List.mem_cons, List.not_mem_nil, or_false] at hp
      rcases hp with rfl | rfl <;> decide
    rw [show (4 : Int) + tot [((1 : Int), (4 : Int), (9 : Int)), (7, 7, 2)] = 42 by decide] at ac4
    have e4 : ∀ T : Cells, dEq (.lst [.lst ([((1 : Int), (4 : Int), (9 : Int)), (7, 7, 2)].map encT), .int 42]) (.lst [.lst [.tup [.int 1, .int 4, .int 9], .tup [.int 7, .int 7, .int 2]], .int 42]) T = some (.bl true) := fun _ => by kernel_rfl
    push_cast [mk4, isC_pieces, pieces_ok, isC_acc, ac4, e4]
end

end K12
end
section
set_option maxHeartbeats 0
open PySem PySem.W PySem.Calls PyProof.Rows
theorem PySem.Challenge.cw_scanmisses_k12_profiles_made_of_pieces_holds : PySem.Challenge.rw_scanmisses_k12_profiles_made_of_pieces.Holds := by
  w_on; o_law
  refine HandSHeadRun.head_any (r := OpenLaw.row PySem.Challenge.rw_scanmisses_k12_profiles_made_of_pieces) (q := view (OpenLaw.row PySem.Challenge.rw_scanmisses_k12_profiles_made_of_pieces).prog [28]) (H := K12.hk) (ob := K12.ob) (M := 3040) (loose := K12.nms) (d := HandSHeadRun.topDef (OpenLaw.row PySem.Challenge.rw_scanmisses_k12_profiles_made_of_pieces).prog 28) (kwd := []) K12.ob_eq
    (by kernel_rfl) (fun s => by kernel_rfl) K12.run (by kernel_rfl) (by kernel_rfl) (by kernel_rfl) (by rfl) (by first | assumption | decide +kernel) (by decide +kernel) ⟨rfl, rfl, rfl, rfl, rfl, by decide +kernel⟩ ?hw ?hc
  case hw => w_witness2
  case hc =>
    refine DL.walk_D (l := PySem.Challenge.rw_scanmisses_k12_profiles_made_of_pieces) (n := 63) (k := 9) (x := "script") (g := K12.g_law) rfl (by decide) (by kernel_rfl) ⟨rfl, by decide, by decide⟩ ?F K12.law_true
    intro w mg fa h Y G hmg0
    obtain ⟨K, KX, c⟩ := Y
    have hmg : mg ("law" : PySem.Str) = some (.ref fa) := by
      have e : (HandSHeadRun.topDef (OpenLaw.row PySem.Challenge.rw_scanmisses_k12_profiles_made_of_pieces).prog 28).name = ("law" : PySem.Str) := by kernel_rfl
      rw [← e]
      exact hmg0
    exact K12.facts (P := (PySem.Challenge.rw_scanmisses_k12_profiles_made_of_pieces).prog) (w := w) KX G hmg c
end

