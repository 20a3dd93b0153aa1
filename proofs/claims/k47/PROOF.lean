import PyProof.Rows.All
import Wide.All
import OpenK.AllK
import Wide.FinOn
import KE.KStateDown
import HandS.ForMost
import HandS.TupAny
import HandS.Deep
import HandS.Strs
import HandS.Exc
import HandS.WordsExc
import HandS.ExcOwn
import HandS.More
import Lean
import HandS.Ends
import HandS.Words
import HandS.Head0
import HandS.Head1
import HandS.Head2
import HandS.HeadEnd
import HandS.ExcInit
import KE.KIsAll
import HandS.SetFor
import KE.DataMinMax
import KE.SortData
import KE.KIndexOf
import KE.SortKeyHeap
import HandS.SortKw
import HandS.ReCall
import HandS.IsInst
import HandS.Iter
import HandS.Steps
import HandS.Text
import PyProof.DictTable
import KE.KDictDisplayH
import HandS.TupLe
import HandS.TryMany
import HandS.ExcField
import HandS.ExcIs
import HandS.Wide
import HandS.TupMul
import PySem.Challenge.RW_tariffgate_k47_whole_one_heading_each
set_option Elab.async false
set_option linter.all false
set_option maxRecDepth 100000
set_option maxHeartbeats 4000000
/-! FW0: data held by an abstract heap, a view of it, the steps that a piece of program may take. -/
namespace TG
open PySem PySem.Spec PyProof.Rows L2

/-! ### a heap grows -/
def Gr (H H' : Hp) : Prop := ∀ a o, H a = some o → H' a = some o
theorem Gr.rfl {H : Hp} : Gr H H := fun _ _ h => h
theorem Gr.trans {H H1 H2 : Hp} (a : Gr H H1) (b : Gr H1 H2) : Gr H H2 := fun x o h => b x o (a x o h)
theorem Gr.new {H : Hp} {p : Addr} {o : HO} (h : H p = none) : Gr H (upd H p o) := fun a u e => by rw [upd_ne (ne_of_none e h)]; exact e
theorem Gr.free {H H' : Hp} (e : Gr H H') {p : Addr} (h : H' p = none) : H p = none := by
  cases q : H p with
  | none => exact Eq.refl _
  | some o => rw [e p o q] at h; cases h
theorem Gr.seqL {K : PySem.W.Frag} {H H' : Hp} {a : Addr} {xs : List V} (e : Gr H H') (h : SqL K H a xs) : SqL K H' a xs := Same.seq (show Same H H' from e) h
/-- what is no tuple -/
def NT : HO → Prop
  | .tup _ => False
  | _ => True

/-! ### data -/
/-- how the tuples within are tracked: plainly; known objects without a dict; either -/
inductive TK where
  | pl | fz | an
mutual
inductive RpK (k : TK) (H : Hp) : V → PyData → Prop
  | non : RpK k H .non .none
  | bl (b : Bool) : RpK k H (.bl b) (.bool b)
  | int (i : Int) : RpK k H (.int i) (.int i)
  | str (x : Str) : RpK k H (.str x) (.str x)
  | lst {a : Addr} {xs : List V} {ds : List PyData} : H a = some (.lst xs) → RpKA k H xs ds → RpK k H (.ref a) (.list ds)
  | tup {a : Addr} {xs : List V} {ds : List PyData} : k ≠ .fz → H a = some (.tup xs) → RpKA k H xs ds → RpK k H (.ref a) (.tuple ds)
  | tupF {a : Addr} {o : Obj} {xs : List V} {ds : List PyData} : k ≠ .pl → H a = some (.frz o (.tup xs)) → o.cls = .type "tuple" → o.dict = none → RpKA k H xs ds → RpK k H (.ref a) (.tuple ds)
inductive RpKA (k : TK) (H : Hp) : List V → List PyData → Prop
  | nil : RpKA k H [] []
  | cons {v : V} {vs : List V} {d : PyData} {ds : List PyData} : RpK k H v d → RpKA k H vs ds → RpKA k H (v :: vs) (d :: ds)
end
abbrev Rp := RpK .pl
abbrev RpA := RpKA .pl

mutual
theorem RpK.mono {k : TK} {H H' : Hp} (e : Gr H H') : ∀ {v : V} {d : PyData}, RpK k H v d → RpK k H' v d
  | _, _, .non => .non
  | _, _, .bl b => .bl b
  | _, _, .int i => .int i
  | _, _, .str x => .str x
  | _, _, .lst h r => .lst (e _ _ h) (RpKA.mono e r)
  | _, _, .tup n h r => .tup n (e _ _ h) (RpKA.mono e r)
  | _, _, .tupF n h c q r => .tupF n (e _ _ h) c q (RpKA.mono e r)
theorem RpKA.mono {k : TK} {H H' : Hp} (e : Gr H H') : ∀ {vs : List V} {ds : List PyData}, RpKA k H vs ds → RpKA k H' vs ds
  | _, _, .nil => .nil
  | _, _, .cons h r => .cons (RpK.mono e h) (RpKA.mono e r)
end
mutual
theorem RpK.dp {k : TK} {K : PySem.W.Frag} {H : Hp} : ∀ {v : V} {d : PyData}, RpK k H v d → Dp K H v d
  | _, _, .non => .non
  | _, _, .bl b => .bl b
  | _, _, .int i => .int i
  | _, _, .str x => .str x
  | _, _, .lst h r => .lst (SqL.of h) (RpKA.dp r)
  | _, _, .tup _ h r => .tup (SqT.of h) (RpKA.dp r)
  | _, _, .tupF _ h _ _ r => .tup (.inl (.inr ⟨_, h⟩)) (RpKA.dp r)
theorem RpKA.dp {k : TK} {K : PySem.W.Frag} {H : Hp} : ∀ {vs : List V} {ds : List PyData}, RpKA k H vs ds → DpAll K H vs ds
  | _, _, .nil => .nil
  | _, _, .cons h r => .cons (RpK.dp h) (RpKA.dp r)
end
mutual
/-- no list within -/
def noL : PyData → Bool
  | .list _ => false
  | .tuple l => noLA l
  | .dict _ => false
  | _ => true
def noLA : List PyData → Bool
  | [] => true
  | d :: ds => noL d && noLA ds
end
theorem noLA_iff : ∀ {l : List PyData}, noLA l = true ↔ ∀ d ∈ l, noL d = true
  | [] => by simp [noLA]
  | d :: ds => by simp [noLA, noLA_iff (l := ds)]
mutual
theorem RpK.tups {k : TK} {H H' : Hp} (e : ∀ a xs, H a = some (.tup xs) → H' a = some (.tup xs)) (e2 : ∀ a o xs, H a = some (.frz o (.tup xs)) → H' a = some (.frz o (.tup xs))) : ∀ {v : V} {d : PyData}, RpK k H v d → noL d = true → RpK k H' v d
  | _, _, .non, _ => .non
  | _, _, .bl b, _ => .bl b
  | _, _, .int i, _ => .int i
  | _, _, .str x, _ => .str x
  | _, _, .lst h r, q => by simp [noL] at q
  | _, _, .tup n h r, q => .tup n (e _ _ h) (RpKA.tups e e2 r (by simpa [noL] using q))
  | _, _, .tupF n h c z r, q => .tupF n (e2 _ _ _ h) c z (RpKA.tups e e2 r (by simpa [noL] using q))
theorem RpKA.tups {k : TK} {H H' : Hp} (e : ∀ a xs, H a = some (.tup xs) → H' a = some (.tup xs)) (e2 : ∀ a o xs, H a = some (.frz o (.tup xs)) → H' a = some (.frz o (.tup xs))) : ∀ {vs : List V} {ds : List PyData}, RpKA k H vs ds → noLA ds = true → RpKA k H' vs ds
  | _, _, .nil, _ => .nil
  | _, _, .cons h r, q => by
    simp only [noLA, Bool.and_eq_true] at q
    exact .cons (RpK.tups e e2 h q.1) (RpKA.tups e e2 r q.2)
end
section
variable {k : TK} {H : Hp}
theorem RpKA.len : ∀ {vs : List V} {ds : List PyData}, RpKA k H vs ds → vs.length = ds.length
  | _, _, .nil => Eq.refl _
  | _, _, .cons _ r => by rw [List.length_cons, List.length_cons, RpKA.len r]
theorem RpKA.get : ∀ {vs : List V} {ds : List PyData} {i : Nat} {d : PyData}, RpKA k H vs ds → ds[i]? = some d → ∃ v, vs[i]? = some v ∧ RpK k H v d
  | _, _, _, _, .nil, e => by simp at e
  | _, _, 0, _, .cons h _, e => by simp at e; subst e; exact ⟨_, Eq.refl _, h⟩
  | _, _, i + 1, d, .cons _ r, e => by
    obtain ⟨v, h1, h2⟩ := RpKA.get (i := i) (d := d) r (by simpa using e)
    exact ⟨v, by simpa using h1, h2⟩
theorem RpKA.getV : ∀ {vs : List V} {ds : List PyData} {i : Nat} {v : V}, RpKA k H vs ds → vs[i]? = some v → ∃ d, ds[i]? = some d ∧ RpK k H v d
  | _, _, _, _, .nil, e => by simp at e
  | _, _, 0, _, .cons h _, e => by simp at e; subst e; exact ⟨_, Eq.refl _, h⟩
  | _, _, i + 1, d, .cons _ r, e => by
    obtain ⟨v, h1, h2⟩ := RpKA.getV (i := i) (v := d) r (by simpa using e)
    exact ⟨v, by simpa using h1, h2⟩
theorem RpKA.append : ∀ {vs ws : List V} {ds es : List PyData}, RpKA k H vs ds → RpKA k H ws es → RpKA k H (vs ++ ws) (ds ++ es)
  | _, _, _, _, .nil, s => s
  | _, _, _, _, .cons r t, s => .cons r (RpKA.append t s)
theorem RpKA.take : ∀ {vs : List V} {ds : List PyData} (n : Nat), RpKA k H vs ds → RpKA k H (vs.take n) (ds.take n)
  | _, _, 0, _ => .nil
  | _, _, _ + 1, .nil => .nil
  | _, _, n + 1, .cons r t => .cons r (RpKA.take n t)
theorem RpKA.drop : ∀ {vs : List V} {ds : List PyData} (n : Nat), RpKA k H vs ds → RpKA k H (vs.drop n) (ds.drop n)
  | _, _, 0, r => r
  | _, _, _ + 1, .nil => .nil
  | _, _, n + 1, .cons _ t => RpKA.drop n t
theorem RpKA.set {v : V} {d : PyData} (r : RpK k H v d) : ∀ {vs : List V} {ds : List PyData} (i : Nat), RpKA k H vs ds → RpKA k H (vs.set i v) (ds.set i d)
  | _, _, _, .nil => .nil
  | _, _, 0, .cons _ t => .cons r t
  | _, _, i + 1, .cons q t => .cons q (RpKA.set r i t)
theorem RpKA.one {v : V} {d : PyData} (r : RpK k H v d) : RpKA k H [v] [d] := .cons r .nil
theorem RpKA.rev : ∀ {vs : List V} {ds : List PyData}, RpKA k H vs ds → RpKA k H vs.reverse ds.reverse
  | _, _, .nil => .nil
  | _, _, .cons r t => by
    rw [List.reverse_cons, List.reverse_cons]
    exact (RpKA.rev t).append (RpKA.one r)
theorem RpKA.rep {vs : List V} {ds : List PyData} (r : RpKA k H vs ds) : ∀ n : Nat, RpKA k H (List.replicate n vs).flatten (List.replicate n ds).flatten
  | 0 => .nil
  | k + 1 => by
    rw [List.replicate_succ, List.replicate_succ, List.flatten_cons, List.flatten_cons]
    exact r.append (RpKA.rep r _)
theorem RpKA.ints : ∀ {ns : List Int} {vs : List V}, RpKA k H vs (ns.map PyData.int) → vs = ns.map V.int
  | [], _, h => by cases h; exact Eq.refl _
  | n :: ns, _, h => by
    cases h with
    | cons a r => cases a; rw [RpKA.ints r]; exact Eq.refl _
theorem RpKA.of_ints : ∀ (ns : List Int), RpKA k H (ns.map V.int) (ns.map PyData.int)
  | [] => .nil
  | n :: ns => .cons (.int n) (RpKA.of_ints ns)
theorem RpKA.strs : ∀ {ns : List Str} {vs : List V}, RpKA k H vs (ns.map PyData.str) → vs = ns.map V.str
  | [], _, h => by cases h; exact Eq.refl _
  | n :: ns, _, h => by
    cases h with
    | cons a r => cases a; rw [RpKA.strs r]; exact Eq.refl _
theorem RpKA.of_get : ∀ {vs : List V} {ds : List PyData}, vs.length = ds.length → (∀ (i : Nat) (v : V) (d : PyData), vs[i]? = some v → ds[i]? = some d → RpK k H v d) → RpKA k H vs ds
  | [], [], _, _ => .nil
  | [], _ :: _, h, _ => by simp at h
  | _ :: _, [], h, _ => by simp at h
  | v :: vs, d :: ds, h, f => .cons (f 0 v d (by simp) (by simp)) (RpKA.of_get (by simpa using h) fun i v d h1 h2 => f (i + 1) v d (by simpa using h1) (by simpa using h2))
theorem RpK.int_inv {v : V} {i : Int} (h : RpK k H v (.int i)) : v = .int i := by cases h; exact Eq.refl _
theorem RpK.str_inv {v : V} {x : Str} (h : RpK k H v (.str x)) : v = .str x := by cases h; exact Eq.refl _
theorem RpK.bl_inv {v : V} {x : Bool} (h : RpK k H v (.bool x)) : v = .bl x := by cases h; exact Eq.refl _
theorem RpK.non_inv {v : V} (h : RpK k H v .none) : v = .non := by cases h; exact Eq.refl _
theorem RpK.lst_inv {v : V} {ds : List PyData} (h : RpK k H v (.list ds)) : ∃ a xs, v = .ref a ∧ H a = some (.lst xs) ∧ RpKA k H xs ds := by cases h with | lst h r => exact ⟨_, _, Eq.refl _, h, r⟩
theorem RpK.tup_inv {v : V} {ds : List PyData} (h : RpK k H v (.tuple ds)) : ∃ a xs, v = .ref a ∧ Rd H a (.tup xs) ∧ RpKA k H xs ds := by
  cases h with
  | tup _ h r => exact ⟨_, _, Eq.refl _, .inl h, r⟩
  | tupF _ h _ _ r => exact ⟨_, _, Eq.refl _, .inr ⟨_, h⟩, r⟩
theorem RpK.tup_pl {v : V} {ds : List PyData} (h : RpK .pl H v (.tuple ds)) : ∃ a xs, v = .ref a ∧ H a = some (.tup xs) ∧ RpKA .pl H xs ds := by
  cases h with
  | tup _ h r => exact ⟨_, _, Eq.refl _, h, r⟩
  | tupF n _ _ _ _ => exact absurd (Eq.refl _) n
theorem RpK.tup_fz {v : V} {ds : List PyData} (h : RpK .fz H v (.tuple ds)) : ∃ a o xs, v = .ref a ∧ H a = some (.frz o (.tup xs)) ∧ o.cls = .type "tuple" ∧ o.dict = none ∧ RpKA .fz H xs ds := by
  cases h with
  | tup n _ _ => exact absurd (Eq.refl _) n
  | tupF _ h c q r => exact ⟨_, _, _, Eq.refl _, h, c, q, r⟩
theorem rd_mono {H H' : Hp} {a : Addr} {u : HO} (e : Gr H H') (h : Rd H a u) : Rd H' a u := by
  rcases h with h | ⟨o, h⟩
  · exact .inl (e _ _ h)
  · exact .inr ⟨o, e _ _ h⟩
mutual
theorem RpK.any {H : Hp} : ∀ {v : V} {d : PyData}, RpK k H v d → RpK .an H v d
  | _, _, .non => .non
  | _, _, .bl b => .bl b
  | _, _, .int i => .int i
  | _, _, .str x => .str x
  | _, _, .lst h r => .lst h (RpKA.any r)
  | _, _, .tup _ h r => .tup (by intro z; cases z) h (RpKA.any r)
  | _, _, .tupF _ h c q r => .tupF (by intro z; cases z) h c q (RpKA.any r)
theorem RpKA.any {H : Hp} : ∀ {vs : List V} {ds : List PyData}, RpKA k H vs ds → RpKA .an H vs ds
  | _, _, .nil => .nil
  | _, _, .cons h r => .cons (RpK.any h) (RpKA.any r)
end
/-- no tuple, no list -/
def isSc : PyData → Bool
  | .none => true
  | .bool _ => true
  | .int _ => true
  | .str _ => true
  | _ => false
theorem RpK.sc {k' : TK} {v : V} {d : PyData} (h : RpK k H v d) (n : isSc d = true) : RpK k' H v d := by
  cases h with
  | non => exact .non
  | bl b => exact .bl b
  | int i => exact .int i
  | str x => exact .str x
  | lst _ _ => cases n
  | tup _ _ _ => cases n
  | tupF _ _ _ _ _ => cases n
theorem RpKA.sc {k' : TK} : ∀ {vs : List V} {ds : List PyData}, RpKA k H vs ds → (∀ d ∈ ds, isSc d = true) → RpKA k' H vs ds
  | _, _, .nil, _ => .nil
  | _, _, .cons h r, n => .cons (h.sc (n _ (List.mem_cons_self ..))) (RpKA.sc r fun d m => n d (List.mem_cons_of_mem _ m))
end

/-! ### a view B of a heap H; a step of both -/
structure Step (B H B' H' : Hp) : Prop where
  bb : Gr B B'
  hh : Gr H H'
  bh : Gr B' H'
  fr : ∀ b o, B b = none → H b = some o → NT o → B' b = none
theorem Step.rfl {B H : Hp} (h : Gr B H) : Step B H B H := ⟨.rfl, .rfl, h, fun _ _ e _ _ => e⟩
theorem Step.trans {B H B1 H1 B2 H2 : Hp} (a : Step B H B1 H1) (b : Step B1 H1 B2 H2) : Step B H B2 H2 :=
  ⟨a.bb.trans b.bb, a.hh.trans b.hh, b.bh, fun x o e h n => b.fr x o (a.fr x o e h n) (a.hh x o h) n⟩
theorem Step.new {B H : Hp} {p : Addr} {o : HO} (e : Gr B H) (h : H p = none) : Step B H (upd B p o) (upd H p o) where
  bb := Gr.new (e.free h)
  hh := Gr.new h
  bh := fun b u q => by
    by_cases hb : b = p
    · subst hb; rw [upd_same] at q ⊢; exact q
    · rw [upd_ne hb] at q ⊢; exact e b u q
  fr := fun b u q r _ => by rw [upd_ne (ne_of_none r h)]; exact q
/-- new in the heap, not in the view -/
theorem Step.newH {B H : Hp} {p : Addr} {o : HO} (e : Gr B H) (h : H p = none) : Step B H B (upd H p o) where
  bb := .rfl
  hh := Gr.new h
  bh := e.trans (Gr.new h)
  fr := fun b u q r _ => q
/-- a tuple that stands comes into the view -/
theorem Step.tup {B H : Hp} {p : Addr} {xs : List V} (e : Gr B H) (h : H p = some (.tup xs)) : Step B H (upd B p (.tup xs)) H where
  bb := fun b u q => by
    by_cases hb : b = p
    · subst hb; rw [upd_same]; rw [e _ _ q] at h; exact h.symm
    · rw [upd_ne hb]; exact q
  hh := .rfl
  bh := fun b u q => by
    by_cases hb : b = p
    · subst hb; rw [upd_same] at q; cases q; exact h
    · rw [upd_ne hb] at q; exact e b u q
  fr := fun b u q r n => by
    by_cases hb : b = p
    · subst hb; rw [h] at r; cases r; exact False.elim n
    · rw [upd_ne hb]; exact q
end TG
set_option Elab.async false
set_option linter.all false
set_option maxRecDepth 100000
set_option maxHeartbeats 4000000
/-! FW1: slots, what an expression gives, tests, arguments. -/
namespace TG
open PySem PySem.Spec PyProof.Rows L2

abbrev Pv := Hp → V → Prop
/-- held by a part of the view -/
def Ab (φ : Pv) (B : Hp) (v : V) : Prop := ∃ B0, Gr B0 B ∧ φ B0 v
theorem Ab.mono {φ : Pv} {B B' : Hp} {v : V} (h : Ab φ B v) (e : Gr B B') : Ab φ B' v := let ⟨B0, g, p⟩ := h; ⟨B0, g.trans e, p⟩
theorem Ab.of {φ : Pv} {B : Hp} {v : V} (h : φ B v) : Ab φ B v := ⟨B, .rfl, h⟩
abbrev Ent := List Int × Pv
def DicV (B : Hp) (vs : List (List Key × V)) (kvs : List Ent) : Prop := Paired (fun (p : List Key × V) (q : Ent) => p.1 = q.1.map Sum.inl ∧ Ab q.2 B p.2) vs kvs
theorem DicV.mono {B B' : Hp} (e : Gr B B') : ∀ {vs : List (List Key × V)} {kvs : List Ent}, DicV B vs kvs → DicV B' vs kvs
  | _, _, .nil => .nil
  | _, _, .cons h r => .cons ⟨h.1, h.2.mono e⟩ (DicV.mono e r)
/-- what stands in a slot -/
inductive Sl where
  | d (x : PyData) (k : TK := .pl)
  | ab (φ : Pv)
  | own (xs : List PyData) (k : TK := .pl)
  | owd (kvs : List Ent)
def Sl.isOwn : Sl → Bool
  | .own _ _ => true
  | .owd _ => true
  | _ => false
def SlR (B H : Hp) (v : V) : Sl → Prop
  | .d x k => RpK k B v x
  | .ab φ => Ab φ B v
  | .own xs k => ∃ a vs, v = .ref a ∧ B a = none ∧ H a = some (.lst vs) ∧ RpKA k B vs xs
  | .owd kvs => ∃ a vs, v = .ref a ∧ B a = none ∧ H a = some (.dT vs) ∧ DicV B vs kvs
def Frs (H : Hp) (v : V) (s : Sl) : Prop := s.isOwn = true → ∃ a, v = .ref a ∧ H a = none
theorem Frs.no {H : Hp} {v : V} {s : Sl} (h : s.isOwn = false) : Frs H v s := fun e => by rw [h] at e; cases e
theorem SlR.step {B H B' H' : Hp} {v : V} {s : Sl} (h : SlR B H v s) (e : Step B H B' H') : SlR B' H' v s := by
  cases s with
  | d x k => exact RpK.mono e.bb h
  | ab φ => exact Ab.mono h e.bb
  | own xs k =>
    obtain ⟨a, vs, rfl, h1, h2, h3⟩ := h
    exact ⟨a, vs, rfl, e.fr a _ h1 h2 trivial, e.hh _ _ h2, RpKA.mono e.bb h3⟩
  | owd kvs =>
    obtain ⟨a, vs, rfl, h1, h2, h3⟩ := h
    exact ⟨a, vs, rfl, e.fr a _ h1 h2 trivial, e.hh _ _ h2, DicV.mono e.bb h3⟩
abbrev Cxt := List (Option Sl)
structure GR (B H : Hp) (σ : L2.St) (Γ : Cxt) : Prop where
  ex : Gr B H
  len : σ.length = Γ.length
  at_ : ∀ (i : Nat) (s : Sl), Γ[i]? = some (some s) → ∃ v, σ[i]? = some (some v) ∧ SlR B H v s
  ow : ∀ (i j : Nat) (s t : Sl), i ≠ j → Γ[i]? = some (some s) → Γ[j]? = some (some t) → s.isOwn = true → t.isOwn = true → σ[i]? ≠ σ[j]?
theorem GR.step {B H B' H' : Hp} {σ : L2.St} {Γ : Cxt} (g : GR B H σ Γ) (e : Step B H B' H') : GR B' H' σ Γ :=
  ⟨e.bh, g.len, fun i s h => let ⟨v, h1, h2⟩ := g.at_ i s h; ⟨v, h1, h2.step e⟩, g.ow⟩
theorem own_ref {B H : Hp} {v : V} {s : Sl} (h : SlR B H v s) (o : s.isOwn = true) : ∃ a ob, v = .ref a ∧ B a = none ∧ H a = some ob ∧ NT ob := by
  cases s with
  | d x k => cases o
  | ab φ => cases o
  | own xs k => obtain ⟨a, vs, rfl, h1, h2, _⟩ := h; exact ⟨a, _, rfl, h1, h2, trivial⟩
  | owd kvs => obtain ⟨a, vs, rfl, h1, h2, _⟩ := h; exact ⟨a, _, rfl, h1, h2, trivial⟩
theorem set_get {α : Type} {l : List α} {i j : Nat} {x y : α} (h : (l.set i x)[j]? = some y) : (j = i ∧ y = x ∧ i < l.length) ∨ (j ≠ i ∧ l[j]? = some y) := by
  by_cases e : i = j
  · subst e
    have hl : i < l.length := by
      have := (List.getElem?_eq_some_iff.mp h).1
      simpa using this
    rw [List.getElem?_set_self hl] at h
    exact .inl ⟨rfl, (Option.some.inj h).symm, hl⟩
  · rw [List.getElem?_set_ne e] at h
    exact .inr ⟨fun z => e z.symm, h⟩
/-- a slot is stored: what is stored is not what another own slot holds -/
theorem GR.set {B H : Hp} {σ : L2.St} {Γ : Cxt} {i : Nat} {v : V} {s : Sl} (g : GR B H σ Γ) (h : SlR B H v s)
    (f : s.isOwn = true → ∀ (j : Nat) (t : Sl), j ≠ i → Γ[j]? = some (some t) → t.isOwn = true → σ[j]? ≠ some (some v)) : GR B H (σ.set i (some v)) (Γ.set i (some s)) where
  ex := g.ex
  len := by rw [List.length_set, List.length_set]; exact g.len
  at_ := fun j t e => by
    rcases set_get e with ⟨rfl, e2, hl⟩ | ⟨ne, e2⟩
    · cases e2
      exact ⟨v, by rw [List.getElem?_set_self (by rw [g.len]; exact hl)], h⟩
    · obtain ⟨u, h1, h2⟩ := g.at_ j t e2
      exact ⟨u, by rw [List.getElem?_set_ne (fun z => ne z.symm)]; exact h1, h2⟩
  ow := fun j k t u jk e1 e2 o1 o2 => by
    rcases set_get e1 with ⟨rfl, q1, hl⟩ | ⟨n1, q1⟩
    · cases q1
      rcases set_get e2 with ⟨rfl, q2, _⟩ | ⟨n2, q2⟩
      · exact absurd rfl jk
      · rw [List.getElem?_set_self (by rw [g.len]; exact hl), List.getElem?_set_ne (fun z => n2 z.symm)]
        exact fun z => f o1 k u n2 q2 o2 z.symm
    · rcases set_get e2 with ⟨rfl, q2, hl⟩ | ⟨n2, q2⟩
      · cases q2
        rw [List.getElem?_set_self (by rw [g.len]; exact hl), List.getElem?_set_ne (fun z => n1 z.symm)]
        exact fun z => f o2 j t n1 q1 o1 z
      · rw [List.getElem?_set_ne (fun z => n1 z.symm), List.getElem?_set_ne (fun z => n2 z.symm)]
        exact g.ow j k t u jk q1 q2 o1 o2
theorem GR.setN {B H : Hp} {σ : L2.St} {Γ : Cxt} {i : Nat} {v : V} {s : Sl} (g : GR B H σ Γ) (h : SlR B H v s) (hf : ∃ B0 H0, Step B0 H0 B H ∧ GR B0 H0 σ Γ ∧ Frs H0 v s) : GR B H (σ.set i (some v)) (Γ.set i (some s)) := by
  refine g.set h fun o j t ne e o2 q => ?_
  obtain ⟨B0, H0, st, g0, fr⟩ := hf
  obtain ⟨a, rfl, hn⟩ := fr o
  obtain ⟨w, h1, h2⟩ := g0.at_ j t e
  obtain ⟨b, ob, rfl, _, hb, _⟩ := own_ref h2 o2
  rw [h1] at q
  cases q
  rw [hn] at hb
  cases hb
theorem GR.set0 {B H : Hp} {σ : L2.St} {Γ : Cxt} {i : Nat} {v : V} {s : Sl} (g : GR B H σ Γ) (h : SlR B H v s) (hn : s.isOwn = false) : GR B H (σ.set i (some v)) (Γ.set i (some s)) :=
  g.set h fun o => by rw [hn] at o; cases o

/-! ### what an expression gives -/
def EvS (te : TE) (Γ : Cxt) (s : Sl) : Prop := ∀ B H σ Q, GR B H σ Γ → (∀ v B' H', Step B H B' H' → SlR B' H' v s → Frs H v s → Q v H') → te σ H Q
def EvT (tt : TT) (Γ : Cxt) (b : Bool) : Prop := ∀ B H σ Q, GR B H σ Γ → (∀ B' H', Step B H B' H' → Q b H') → tt σ H Q
def SlA (B H : Hp) : List V → List Sl → Prop := Paired fun v s => SlR B H v s ∧ s.isOwn = false
def EvA (ta : TA) (Γ : Cxt) (ss : List Sl) : Prop := ∀ B H σ Q, GR B H σ Γ → (∀ vs B' H', Step B H B' H' → SlA B' H' vs ss → Q vs H') → ta σ H Q
def EvO (to : TO) (Γ : Cxt) (o : Option Int) : Prop := ∀ B H σ Q, GR B H σ Γ → (∀ B' H', Step B H B' H' → Q o H') → to σ H Q
theorem SlA.step {B H B' H' : Hp} (e : Step B H B' H') : ∀ {vs : List V} {ss : List Sl}, SlA B H vs ss → SlA B' H' vs ss
  | _, _, .nil => .nil
  | _, _, .cons h r => .cons ⟨h.1.step e, h.2⟩ (SlA.step e r)
abbrev dI (i : Int) : Sl := .d (.int i)
abbrev dB (b : Bool) : Sl := .d (.bool b)
abbrev dS (x : Str) : Sl := .d (.str x)
abbrev dN : Sl := .d .none
abbrev dT (l : List PyData) : Sl := .d (.tuple l)
abbrev dL (l : List PyData) : Sl := .d (.list l)
/-- a value's rule under a Q that takes any step's end -/
def RVal (B H : Hp) (Q : VK) (s : Sl) : Prop := ∀ v B' H', Step B H B' H' → SlR B' H' v s → Frs H v s → Q v H'
section
variable {K : PySem.W.Frag} {Γ : Cxt} {ta tb tc te tl : TE} {t u : TT} {s : Sl} {x y z : PyData} {r : R2} {κ κ' : TK}
theorem EvS.is {s' : Sl} (h : EvS te Γ s) (e : s = s') : EvS te Γ s' := e ▸ h
theorem EvT.is {a b : Bool} (h : EvT t Γ a) (e : a = b) : EvT t Γ b := e ▸ h
theorem ev_var {i : Nat} (h : Γ[i]? = some (some s)) (hn : s.isOwn = false := by rfl) : EvS (tVar i) Γ s := fun B H σ Q g q => by
  obtain ⟨v, h1, h2⟩ := g.at_ i s h
  exact ⟨v, h1, q v B H (.rfl g.ex) h2 (.no hn)⟩
theorem ev_int {i : Int} : EvS (tC (.int i)) Γ (dI i) := fun B H σ Q g q => q _ B H (.rfl g.ex) (RpK.int i) (.no rfl)
theorem ev_str {i : Str} : EvS (tC (.str i)) Γ (dS i) := fun B H σ Q g q => q _ B H (.rfl g.ex) (RpK.str i) (.no rfl)
theorem ev_bl {i : Bool} : EvS (tC (.bl i)) Γ (dB i) := fun B H σ Q g q => q _ B H (.rfl g.ex) (RpK.bl i) (.no rfl)
theorem ev_non : EvS (tC .non) Γ dN := fun B H σ Q g q => q _ B H (.rfl g.ex) RpK.non (.no rfl)
/-- a new list told as data -/
theorem ev_fz {xs : List PyData} (h : EvS te Γ (.own xs κ)) : EvS te Γ (.d (.list xs) κ) := fun B H σ Q g q => h B H σ Q g fun v B' H' st hr fr => by
  obtain ⟨a, vs, rfl, h1, h2, h3⟩ := hr
  obtain ⟨b, e, hn⟩ := fr rfl
  cases e
  have st2 : Step B H (upd B' a (.lst vs)) H' := by
    refine ⟨st.bb.trans (Gr.new h1), st.hh, fun b u q => ?_, fun b u q r n => ?_⟩
    · by_cases hb : b = a
      · subst hb; rw [upd_same] at q; cases q; exact h2
      · rw [upd_ne hb] at q; exact st.bh b u q
    · rw [upd_ne (ne_of_none r hn)]; exact st.fr b u q r n
  exact q _ _ _ st2 (RpK.lst upd_same (RpKA.mono (Gr.new h1) h3)) (.no rfl)
theorem ev_op2 {s1 s2 : Sl} (ha : EvS ta Γ s1) (hb : EvS tb Γ s2) (n1 : s1.isOwn = false) (n2 : s2.isOwn = false) (hr : ∀ B H v w Q, Gr B H → SlR B H v s1 → SlR B H w s2 → RVal B H Q s → r v w H Q) : EvS (tOp r ta tb) Γ s := fun B H σ Q g q =>
  ha B H σ _ g fun v B1 H1 st1 r1 f1 => hb B1 H1 σ _ (g.step st1) fun w B2 H2 st2 r2 f2 =>
    hr B2 H2 v w Q st2.bh (r1.step st2) r2 fun z B3 H3 st3 r3 f3 => q z B3 H3 ((st1.trans st2).trans st3) r3 fun o => by
      obtain ⟨a, e, hn⟩ := f3 o
      exact ⟨a, e, (st1.hh.trans st2.hh).free hn⟩
theorem ev_un1 {r1 : V → Hp → VK → Prop} {s1 : Sl} (ha : EvS ta Γ s1) (hr : ∀ B H v Q, Gr B H → SlR B H v s1 → RVal B H Q s → r1 v H Q) : EvS (fun σ H Q => ta σ H fun x H1 => r1 x H1 Q) Γ s := fun B H σ Q g q =>
  ha B H σ _ g fun v B1 H1 st1 r1 f1 => hr B1 H1 v Q st1.bh r1 fun z B3 H3 st3 r3 f3 => q z B3 H3 (st1.trans st3) r3 fun o => by
    obtain ⟨a, e, hn⟩ := f3 o
    exact ⟨a, e, st1.hh.free hn⟩
theorem RVal.now {B H : Hp} {Q : VK} {v : V} (q : RVal B H Q s) (e : Gr B H) (h : SlR B H v s) (hn : s.isOwn = false) : Q v H := q v B H (.rfl e) h (.no hn)
/-- two ints -/
theorem ev_I {C : Int → Int → Prop} {g : Int → Int → V} {i j : Int} (ha : EvS ta Γ (dI i)) (hb : EvS tb Γ (dI j)) (hc : C i j) (hg : Rp (fun _ => none) (g i j) z) : EvS (tOp (rI C g) ta tb) Γ (.d z) :=
  ev_op2 ha hb rfl rfl fun B H v w Q e r1 r2 q => ⟨i, j, RpK.int_inv r1, RpK.int_inv r2, hc, q.now e (show Rp B _ z from RpK.mono (fun _ _ h => by cases h) hg) rfl⟩
theorem ev_I0 {g : Int → Int → V} {i j : Int} (ha : EvS ta Γ (dI i)) (hb : EvS tb Γ (dI j)) (hg : Rp (fun _ => none) (g i j) z) : EvS (tOp (rI0 g) ta tb) Γ (.d z) :=
  ev_op2 ha hb rfl rfl fun B H v w Q e r1 r2 q => ⟨i, j, RpK.int_inv r1, RpK.int_inv r2, q.now e (show Rp B _ z from RpK.mono (fun _ _ h => by cases h) hg) rfl⟩
theorem ev_add {i j : Int} (ha : EvS ta Γ (dI i)) (hb : EvS tb Γ (dI j)) : EvS (tOp (rI0 fun i j => .int (i + j)) ta tb) Γ (dI (i + j)) := ev_I0 ha hb (.int _)
theorem ev_sub {i j : Int} (ha : EvS ta Γ (dI i)) (hb : EvS tb Γ (dI j)) : EvS (tOp (rI0 fun i j => .int (i - j)) ta tb) Γ (dI (i - j)) := ev_I0 ha hb (.int _)
theorem ev_mul {i j : Int} (ha : EvS ta Γ (dI i)) (hb : EvS tb Γ (dI j)) (hc : CMul i j) : EvS (tOp (rI CMul fun i j => .int (i * j)) ta tb) Γ (dI (i * j)) := ev_I ha hb hc (.int _)
theorem ev_mod {i j : Int} (ha : EvS ta Γ (dI i)) (hb : EvS tb Γ (dI j)) (hc : 0 < j) : EvS (tOp (rI (fun _ j => 0 < j) fun i j => .int (i % j)) ta tb) Γ (dI (i % j)) := ev_I ha hb hc (.int _)
theorem ev_fdiv {i j : Int} (ha : EvS ta Γ (dI i)) (hb : EvS tb Γ (dI j)) (hc : CDiv i j) : EvS (tOp (rI CDiv fun i j => .int (i / j)) ta tb) Γ (dI (i / j)) := ev_I ha hb hc (.int _)
theorem ev_pow {i j : Int} (ha : EvS ta Γ (dI i)) (hb : EvS tb Γ (dI j)) (hc : CPow i j) : EvS (tOp (rI CPow fun i j => .int (i ^ j.toNat)) ta tb) Γ (dI (i ^ j.toNat)) := ev_I ha hb hc (.int _)
theorem ev_lt {i j : Int} (ha : EvS ta Γ (dI i)) (hb : EvS tb Γ (dI j)) : EvS (tOp (rI0 fun i j => .bl (decide (i < j))) ta tb) Γ (dB (decide (i < j))) := ev_I0 ha hb (.bl _)
theorem ev_le {i j : Int} (ha : EvS ta Γ (dI i)) (hb : EvS tb Γ (dI j)) : EvS (tOp (rI0 fun i j => .bl (decide (i ≤ j))) ta tb) Γ (dB (decide (i ≤ j))) := ev_I0 ha hb (.bl _)
theorem ev_gt {i j : Int} (ha : EvS ta Γ (dI i)) (hb : EvS tb Γ (dI j)) : EvS (tOp (rI0 fun i j => .bl (decide (j < i))) ta tb) Γ (dB (decide (j < i))) := ev_I0 ha hb (.bl _)
theorem ev_ge {i j : Int} (ha : EvS ta Γ (dI i)) (hb : EvS tb Γ (dI j)) : EvS (tOp (rI0 fun i j => .bl (decide (j ≤ i))) ta tb) Γ (dB (decide (j ≤ i))) := ev_I0 ha hb (.bl _)
/-- == of scalars -/
theorem scal_II {i j : Int} : scal (.int i) (.int j) = true := rfl
theorem ev_eqI {i j : Int} (ha : EvS ta Γ (dI i)) (hb : EvS tb Γ (dI j)) : EvS (tOp rEq ta tb) Γ (dB (decide (i = j))) :=
  ev_op2 ha hb rfl rfl fun B H v w Q e r1 r2 q => by
    rw [RpK.int_inv r1, RpK.int_inv r2]
    refine ⟨rfl, ?_⟩
    have hd : decide (V.int i = V.int j) = decide (i = j) := by simp
    rw [hd]
    exact q.now e (RpK.bl _) rfl
theorem ev_eqS {i j : Str} (ha : EvS ta Γ (dS i)) (hb : EvS tb Γ (dS j)) : EvS (tOp rEq ta tb) Γ (dB (decide (i = j))) :=
  ev_op2 ha hb rfl rfl fun B H v w Q e r1 r2 q => by
    rw [RpK.str_inv r1, RpK.str_inv r2]
    refine ⟨rfl, ?_⟩
    have hd : decide (V.str i = V.str j) = decide (i = j) := by simp
    rw [hd]
    exact q.now e (RpK.bl _) rfl
theorem ev_neI {i j : Int} (ha : EvS ta Γ (dI i)) (hb : EvS tb Γ (dI j)) : EvS (tOp rNe ta tb) Γ (dB (!decide (i = j))) :=
  ev_op2 ha hb rfl rfl fun B H v w Q e r1 r2 q => by
    rw [RpK.int_inv r1, RpK.int_inv r2]
    refine ⟨rfl, ?_⟩
    have hd : decide (V.int i = V.int j) = decide (i = j) := by simp
    rw [hd]
    exact q.now e (RpK.bl _) rfl
/-- == of data -/
theorem ev_eqD (ha : EvS ta Γ (.d x κ)) (hb : EvS tb Γ (.d y κ')) (sx : SeqAt.shaped x = true) (sy : SeqAt.shaped y = true) : EvS (tOp (rEqD K) ta tb) Γ (dB (PyData.eqv x y)) :=
  ev_op2 ha hb rfl rfl fun B H v w Q e r1 r2 q => ⟨x, y, RpK.dp (RpK.mono e r1), RpK.dp (RpK.mono e r2), sx, sy, q.now e (RpK.bl _) rfl⟩
theorem ev_neD (ha : EvS ta Γ (.d x κ)) (hb : EvS tb Γ (.d y κ')) (sx : SeqAt.shaped x = true) (sy : SeqAt.shaped y = true) : EvS (tOp (rNeD K) ta tb) Γ (dB (!PyData.eqv x y)) :=
  ev_op2 ha hb rfl rfl fun B H v w Q e r1 r2 q => ⟨x, y, RpK.dp (RpK.mono e r1), RpK.dp (RpK.mono e r2), sx, sy, q.now e (RpK.bl _) rfl⟩
theorem ev_inD {ds : List PyData} (ha : EvS ta Γ (.d x κ)) (hb : EvS tb Γ (.d (.list ds) κ')) (sx : SeqAt.shaped x = true) (sy : SeqAt.shaped (.list ds) = true) : EvS (tOp (rInD K) ta tb) Γ (dB (ds.any fun z => PyData.eqv z x)) :=
  ev_op2 ha hb rfl rfl fun B H v w Q e r1 r2 q => ⟨x, ds, RpK.dp (RpK.mono e r1), RpK.dp (RpK.mono e r2), sx, sy, q.now e (RpK.bl _) rfl⟩
theorem ev_notInD {ds : List PyData} (ha : EvS ta Γ (.d x κ)) (hb : EvS tb Γ (.d (.list ds) κ')) (sx : SeqAt.shaped x = true) (sy : SeqAt.shaped (.list ds) = true) : EvS (tOp (rNotInD K) ta tb) Γ (dB (!ds.any fun z => PyData.eqv z x)) :=
  ev_op2 ha hb rfl rfl fun B H v w Q e r1 r2 q => ⟨x, ds, RpK.dp (RpK.mono e r1), RpK.dp (RpK.mono e r2), sx, sy, q.now e (RpK.bl _) rfl⟩
/-- is None -/
def isNonD : PyData → Bool
  | .none => true
  | _ => false
theorem RpK.isNon {H : Hp} {v : V} {d : PyData} (h : RpK κ H v d) : decide (v = .non) = isNonD d := by
  cases h <;> simp [isNonD]
theorem ev_isN (ha : EvS ta Γ (.d x κ)) : EvS (tOp (fun x y H Q => y = .non ∧ Q (.bl (decide (x = .non))) H) ta (tC .non)) Γ (dB (isNonD x)) :=
  ev_op2 ha ev_non rfl rfl fun B H v w Q e r1 r2 q => ⟨RpK.non_inv r2, by rw [RpK.isNon r1]; exact q.now e (RpK.bl _) rfl⟩
theorem ev_notN (ha : EvS ta Γ (.d x κ)) : EvS (tOp (fun x y H Q => y = .non ∧ Q (.bl (!decide (x = .non))) H) ta (tC .non)) Γ (dB (!isNonD x)) :=
  ev_op2 ha ev_non rfl rfl fun B H v w Q e r1 r2 q => ⟨RpK.non_inv r2, by rw [RpK.isNon r1]; exact q.now e (RpK.bl _) rfl⟩
/-! items -/
theorem ixN_ofNat {n j : Nat} (hj : j < n) : ixN n (j : Int) = some j := by
  unfold ixN
  rw [if_pos (by omega), if_pos (by omega)]
  simp
theorem atI_rp {H : Hp} {vs : List V} {ds : List PyData} {i : Int} {d : PyData} (r : RpKA κ H vs ds) (h : atI ds i = some d) : ∃ v, atI vs i = some v ∧ RpK κ H v d := by
  unfold atI at h ⊢
  rw [r.len]
  cases e : ixN ds.length i with
  | none => rw [e] at h; cases h
  | some j =>
    rw [e] at h
    exact r.get h
theorem ev_ixL {ds : List PyData} {i : Int} {d : PyData} (ha : EvS ta Γ (.d (.list ds) κ)) (hb : EvS tb Γ (dI i)) (h : atI ds i = some d) : EvS (tOp (rIxL K) ta tb) Γ (.d d κ) :=
  ev_op2 ha hb rfl rfl fun B H v w Q e r1 r2 q => by
    obtain ⟨a, vs, rfl, ha, hr⟩ := RpK.lst_inv r1
    obtain ⟨z, hz, rz⟩ := atI_rp hr h
    exact ⟨a, vs, i, z, rfl, RpK.int_inv r2, SqL.of (e _ _ ha), hz, q.now e rz rfl⟩
theorem ev_ixT {ds : List PyData} {i : Int} {d : PyData} (ha : EvS ta Γ (.d (.tuple ds) κ)) (hb : EvS tb Γ (dI i)) (h : atI ds i = some d) : EvS (tOp (rIxT K) ta tb) Γ (.d d κ) :=
  ev_op2 ha hb rfl rfl fun B H v w Q e r1 r2 q => by
    obtain ⟨a, vs, rfl, ha, hr⟩ := RpK.tup_inv r1
    obtain ⟨z, hz, rz⟩ := atI_rp hr h
    exact ⟨a, vs, i, z, rfl, RpK.int_inv r2, Or.inl (rd_mono e ha), hz, q.now e rz rfl⟩
theorem ev_ixL' {ds : List PyData} {i : Int} {d : PyData} (ha : EvS ta Γ (.d (.list ds) κ)) (hb : EvS tb Γ (dI i)) (h : atI ds i = some d) : EvS (tOp (rIx K) ta tb) Γ (.d d κ) :=
  ev_op2 ha hb rfl rfl fun B H v w Q e r1 r2 q => by
    obtain ⟨a, vs, rfl, ha, hr⟩ := RpK.lst_inv r1
    obtain ⟨z, hz, rz⟩ := atI_rp hr h
    exact .inl ⟨a, vs, i, z, rfl, RpK.int_inv r2, SqL.of (e _ _ ha), hz, q.now e rz rfl⟩
theorem ev_ixT' {ds : List PyData} {i : Int} {d : PyData} (ha : EvS ta Γ (.d (.tuple ds) κ)) (hb : EvS tb Γ (dI i)) (h : atI ds i = some d) : EvS (tOp (rIx K) ta tb) Γ (.d d κ) :=
  ev_op2 ha hb rfl rfl fun B H v w Q e r1 r2 q => by
    obtain ⟨a, vs, rfl, ha, hr⟩ := RpK.tup_inv r1
    obtain ⟨z, hz, rz⟩ := atI_rp hr h
    exact .inr (.inl ⟨a, vs, i, z, rfl, RpK.int_inv r2, Or.inl (rd_mono e ha), hz, q.now e rz rfl⟩)
theorem ev_ixS' {x : Str} {i : Int} {c : Nat} (ha : EvS ta Γ (dS x)) (hb : EvS tb Γ (dI i)) (hl : x.length ≤ sizeLine) (h : atI x.cps.toList i = some c) : EvS (tOp (rIx K) ta tb) Γ (dS ⟨#[c]⟩) :=
  ev_op2 ha hb rfl rfl fun B H v w Q e r1 r2 q => .inr (.inr ⟨x, i, c, RpK.str_inv r1, RpK.int_inv r2, hl, h, q.now e (RpK.str _) rfl⟩)
/-! tests -/
theorem et_test {b : Bool} (h : EvS te Γ (dB b)) : EvT (tTest te) Γ b := fun B H σ Q g q => h B H σ _ g fun v B' H' st r _ => ⟨b, RpK.bl_inv r, q B' H' st⟩
theorem et_B {b : Bool} (h : EvS te Γ (dB b)) : EvT (tB te) Γ b := fun B H σ Q g q => h B H σ _ g fun v B' H' st r _ => ⟨b, RpK.bl_inv r, q B' H' st⟩
theorem et_not {b : Bool} (h : EvT t Γ b) : EvT (tNot t) Γ (!b) := fun B H σ Q g q => h B H σ _ g fun B' H' st => q B' H' st
theorem et_and {a b : Bool} (h1 : EvT t Γ a) (h2 : a = true → EvT u Γ b) : EvT (tAnd t u) Γ (a && b) := fun B H σ Q g q => h1 B H σ _ g fun B1 H1 st => by
  cases a with
  | true => exact h2 rfl B1 H1 σ Q (g.step st) fun B2 H2 st2 => q B2 H2 (st.trans st2)
  | false => exact q B1 H1 st
theorem et_or {a b : Bool} (h1 : EvT t Γ a) (h2 : a = false → EvT u Γ b) : EvT (tOr t u) Γ (a || b) := fun B H σ Q g q => h1 B H σ _ g fun B1 H1 st => by
  cases a with
  | false => exact h2 rfl B1 H1 σ Q (g.step st) fun B2 H2 st2 => q B2 H2 (st.trans st2)
  | true => exact q B1 H1 st
theorem ev_andV {a b : Bool} (h1 : EvS ta Γ (dB a)) (h2 : a = true → EvS tb Γ (dB b)) : EvS (tAndV ta tb) Γ (dB (a && b)) := fun B H σ Q g q => h1 B H σ _ g fun v B1 H1 st r _ => ⟨a, RpK.bl_inv r, by
  cases a with
  | true => exact h2 rfl B1 H1 σ Q (g.step st) fun z B2 H2 st2 r2 _ => q z B2 H2 (st.trans st2) r2 (.no rfl)
  | false => exact q _ B1 H1 st (RpK.bl false) (.no rfl)⟩
theorem ev_orV {a b : Bool} (h1 : EvS ta Γ (dB a)) (h2 : a = false → EvS tb Γ (dB b)) : EvS (tOrV ta tb) Γ (dB (a || b)) := fun B H σ Q g q => h1 B H σ _ g fun v B1 H1 st r _ => ⟨a, RpK.bl_inv r, by
  cases a with
  | false => exact h2 rfl B1 H1 σ Q (g.step st) fun z B2 H2 st2 r2 _ => q z B2 H2 (st.trans st2) r2 (.no rfl)
  | true => exact q _ B1 H1 st (RpK.bl true) (.no rfl)⟩
theorem ev_notV {a : Bool} (h1 : EvS ta Γ (dB a)) : EvS (tNotV ta) Γ (dB (!a)) := fun B H σ Q g q => h1 B H σ _ g fun v B1 H1 st r _ => ⟨a, RpK.bl_inv r, q _ B1 H1 st (RpK.bl _) (.no rfl)⟩
/-- a < b < c: the first test, then the second -/
theorem ev_chain {r r' : R2} {a b : Bool} {i j k : Int} (ha : EvS ta Γ (dI i)) (hb : EvS tb Γ (dI j)) (hc : EvS tc Γ (dI k)) (h1 : ∀ H (Q : VK), Q (.bl a) H → r (.int i) (.int j) H Q) (h2 : ∀ H (Q : VK), Q (.bl b) H → r' (.int j) (.int k) H Q) :
    EvS (tChain r r' ta tb tc) Γ (dB (a && b)) := fun B H σ Q g q => ha B H σ _ g fun v B1 H1 st1 r1 _ => hb B1 H1 σ _ (g.step st1) fun w B2 H2 st2 r2 _ => by
  rw [RpK.int_inv r1, RpK.int_inv r2]
  refine h1 H2 _ ⟨a, rfl, ?_⟩
  cases a with
  | true =>
    refine hc B2 H2 σ _ (g.step (st1.trans st2)) fun z B3 H3 st3 r3 _ => ?_
    rw [RpK.int_inv r3]
    exact h2 H3 _ (q _ B3 H3 ((st1.trans st2).trans st3) (RpK.bl _) (.no rfl))
  | false => exact q _ B2 H2 (st1.trans st2) (RpK.bl _) (.no rfl)
theorem ev_chainLe {i j k : Int} (ha : EvS ta Γ (dI i)) (hb : EvS tb Γ (dI j)) (hc : EvS tc Γ (dI k)) : EvS (tChain (rI0 fun i j => .bl (decide (i ≤ j))) (rI0 fun i j => .bl (decide (i ≤ j))) ta tb tc) Γ (dB (decide (i ≤ j) && decide (j ≤ k))) :=
  ev_chain ha hb hc (fun H Q q => ⟨i, j, rfl, rfl, q⟩) (fun H Q q => ⟨j, k, rfl, rfl, q⟩)
theorem ev_if {b : Bool} (h : EvT t Γ b) (h1 : b = true → EvS ta Γ s) (h2 : b = false → EvS tb Γ s) : EvS (tIf t ta tb) Γ s := fun B H σ Q g q => h B H σ _ g fun B1 H1 st => by
  have fin : ∀ {w : TE}, EvS w Γ s → w σ H1 Q := fun e => e B1 H1 σ Q (g.step st) fun z B2 H2 st2 r2 f2 => q z B2 H2 (st.trans st2) r2 fun o => by
    obtain ⟨a, e, hn⟩ := f2 o
    exact ⟨a, e, st.hh.free hn⟩
  cases b with
  | true => exact fin (h1 rfl)
  | false => exact fin (h2 rfl)
/-! arguments, displays -/
theorem ea_nil : EvA tNil Γ [] := fun B H σ Q g q => q [] B H (.rfl g.ex) .nil
theorem ea_cons {tr : TA} {ss : List Sl} (h : EvS te Γ s) (hr : EvA tr Γ ss) (hn : s.isOwn = false := by rfl) : EvA (tCons te tr) Γ (s :: ss) := fun B H σ Q g q =>
  h B H σ _ g fun v B1 H1 st1 r1 _ => hr B1 H1 σ _ (g.step st1) fun vs B2 H2 st2 r2 => q _ B2 H2 (st1.trans st2) (.cons ⟨r1.step st2, hn⟩ r2)
theorem SlA.rp {B H : Hp} : ∀ {vs : List V} {ds : List PyData}, SlA B H vs (ds.map fun x => Sl.d x κ) → RpKA κ B vs ds
  | _, [], h => by cases h; exact .nil
  | _, d :: ds, h => by
    cases h with
    | cons a r => exact .cons a.1 (SlA.rp r)
theorem sl1000 {n : Nat} (h : n ≤ 100000) : n ≤ sizeLine := Nat.le_trans h (by decide)
theorem ev_any (h : EvS te Γ (.d x κ)) : EvS te Γ (.d x .an) := fun B H σ Q g q => h B H σ Q g fun v B1 H1 st r _ => q v B1 H1 st (RpK.any r) (.no rfl)
theorem ev_sc (h : EvS te Γ (.d x κ)) (n : isSc x = true := by rfl) : EvS te Γ (.d x κ') := fun B H σ Q g q => h B H σ Q g fun v B1 H1 st r _ => q v B1 H1 st (RpK.sc r n) (.no rfl)
theorem ev_tup {ta : TA} {ds : List PyData} (h : EvA ta Γ (ds.map fun x => Sl.d x κ)) (hl : ds.length ≤ 100000) (nf : κ ≠ .fz := by intro z; cases z) : EvS (tTup ta) Γ (.d (.tuple ds) κ) := fun B H σ Q g q =>
  h B H σ _ g fun vs B1 H1 st1 r1 => ⟨sl1000 (by rw [(SlA.rp r1).len]; exact hl), fun p hp => q _ (upd B1 p (.tup vs)) _ (st1.trans (Step.new st1.bh hp)) (RpK.tup nf upd_same (RpKA.mono (Gr.new (st1.bh.free hp)) (SlA.rp r1))) (.no rfl)⟩
theorem ev_lst {ta : TA} {ds : List PyData} (h : EvA ta Γ (ds.map fun x => Sl.d x κ)) (hl : ds.length ≤ 100000) : EvS (tLst ta) Γ (.own ds κ) := fun B H σ Q g q =>
  h B H σ _ g fun vs B1 H1 st1 r1 => ⟨sl1000 (by rw [(SlA.rp r1).len]; exact hl), fun p hp => q _ B1 _ (st1.trans (Step.newH st1.bh hp)) ⟨p, vs, rfl, st1.bh.free hp, upd_same, SlA.rp r1⟩ fun _ => ⟨p, rfl, st1.hh.free hp⟩⟩
theorem eo_none : EvO tNoPart Γ none := fun B H σ Q g q => q B H (.rfl g.ex)
theorem eo_some {i : Int} (h : EvS te Γ (dI i)) : EvO (tPart te) Γ (some i) := fun B H σ Q g q => h B H σ _ g fun v B1 H1 st r _ => ⟨i, RpK.int_inv r, q B1 H1 st⟩
def cutD (xs : List PyData) (lo hi : Option Int) : List PyData := (xs.drop (HT.sIx xs.length 0 lo)).take (HT.sIx xs.length xs.length hi - HT.sIx xs.length 0 lo)
theorem cut_rp {H : Hp} {vs : List V} {ds : List PyData} (r : RpKA κ H vs ds) (lo hi : Option Int) : RpKA κ H (cutV vs lo hi) (cutD ds lo hi) := by
  unfold cutV cutD
  rw [r.len]
  exact (r.drop _).take _
theorem ev_slL {tlo thi : TO} {ds : List PyData} {lo hi : Option Int} (h : EvS te Γ (.d (.list ds) κ)) (h1 : EvO tlo Γ lo) (h2 : EvO thi Γ hi) : EvS (tSl (rSlL K) te tlo thi) Γ (.own (cutD ds lo hi) κ) := fun B H σ Q g q =>
  h B H σ _ g fun v B1 H1 st1 r1 _ => h1 B1 H1 σ _ (g.step st1) fun B2 H2 st2 => h2 B2 H2 σ _ (g.step (st1.trans st2)) fun B3 H3 st3 => by
    obtain ⟨a, vs, rfl, ha, hr⟩ := RpK.lst_inv r1
    have st := (st1.trans st2).trans st3
    have gr : Gr B1 B3 := st2.bb.trans st3.bb
    exact ⟨a, vs, rfl, SqL.of (st3.bh _ _ (gr _ _ ha)), fun p hp => q _ B3 _ (st.trans (Step.newH st3.bh hp)) ⟨p, _, rfl, st3.bh.free hp, upd_same, cut_rp (RpKA.mono gr hr) lo hi⟩ fun _ => ⟨p, rfl, st.hh.free hp⟩⟩
end
end TG
set_option Elab.async false
set_option linter.all false
set_option maxRecDepth 100000
set_option maxHeartbeats 4000000
/-! FW2: further expressions; calls; statements. -/
namespace TG
open PySem PySem.Spec PyProof.Rows L2

section
variable {K : PySem.W.Frag} {Γ : Cxt} {ta tb tc te tl : TE} {t u : TT} {s : Sl} {x y z : PyData} {r : R2} {κ κ' : TK}
theorem cutD_whole {xs : List PyData} {lo hi : Option Int} (h : HT.sIx xs.length 0 lo = 0 ∧ HT.sIx xs.length xs.length hi = xs.length) : cutD xs lo hi = xs := by
  unfold cutD
  rw [h.1, h.2]
  simp
theorem ev_slT {tlo thi : TO} {ds : List PyData} {lo hi : Option Int} (h : EvS te Γ (dT ds)) (h1 : EvO tlo Γ lo) (h2 : EvO thi Γ hi) : EvS (tSl (rSlA K) te tlo thi) Γ (dT (cutD ds lo hi)) := fun B H σ Q g q =>
  h B H σ _ g fun v B1 H1 st1 r1 _ => h1 B1 H1 σ _ (g.step st1) fun B2 H2 st2 => h2 B2 H2 σ _ (g.step (st1.trans st2)) fun B3 H3 st3 => by
    obtain ⟨a, vs, rfl, ha, hr⟩ := RpK.tup_pl r1
    have st := (st1.trans st2).trans st3
    have gr : Gr B1 B3 := st2.bb.trans st3.bb
    refine ⟨a, vs, rfl, SqT.of (st3.bh _ _ (gr _ _ ha)), fun hw => ?_, fun _ p hp => ?_⟩
    · rw [hr.len] at hw
      refine q _ B3 H3 st ?_ (.no rfl)
      rw [cutD_whole hw]
      exact RpK.tup (by intro z; cases z) (gr _ _ ha) (RpKA.mono gr hr)
    · exact q _ (upd B3 p (.tup _)) _ (st.trans (Step.new st3.bh hp)) (RpK.tup (by intro z; cases z) upd_same (RpKA.mono (Gr.new (st3.bh.free hp)) (cut_rp (RpKA.mono gr hr) lo hi))) (.no rfl)
theorem ev_catT {a b : List PyData} (ha : EvS ta Γ (dT a)) (hb : EvS tb Γ (dT b)) (hl : a.length + b.length ≤ 100000) : EvS (tOp (rCatA K) ta tb) Γ (dT (a ++ b)) :=
  ev_op2 ha hb rfl rfl fun B H v w Q e r1 r2 q => by
    obtain ⟨p1, vs, rfl, h1, q1⟩ := RpK.tup_pl r1
    obtain ⟨p2, ws, rfl, h2, q2⟩ := RpK.tup_pl r2
    refine ⟨p1, p2, vs, ws, rfl, rfl, SqT.of (e _ _ h1), SqT.of (e _ _ h2), sl1000 (by rw [q1.len, q2.len]; exact hl), fun e1 => ?_, fun _ e2 => ?_, fun _ _ p hp => ?_⟩
    · subst e1
      cases q1
      exact q.now e r2 rfl
    · subst e2
      cases q2
      rw [List.append_nil] at q
      exact q.now e r1 rfl
    · exact q _ (upd B p (.tup (vs ++ ws))) _ (Step.new e hp) (RpK.tup (by intro z; cases z) upd_same (RpKA.mono (Gr.new (e.free hp)) (q1.append q2))) (.no rfl)
theorem ev_catL {a b : List PyData} (ha : EvS ta Γ (.d (.list a) κ)) (hb : EvS tb Γ (.d (.list b) κ)) (hl : a.length + b.length ≤ 100000) : EvS (tOp rCat ta tb) Γ (.own (a ++ b) κ) :=
  ev_op2 ha hb rfl rfl fun B H v w Q e r1 r2 q => by
    obtain ⟨p1, vs, rfl, h1, q1⟩ := RpK.lst_inv r1
    obtain ⟨p2, ws, rfl, h2, q2⟩ := RpK.lst_inv r2
    exact ⟨p1, p2, vs, ws, rfl, rfl, e _ _ h1, e _ _ h2, sl1000 (by rw [q1.len, q2.len]; exact hl), fun p hp => q _ B _ (Step.newH e hp) ⟨p, _, rfl, e.free hp, upd_same, q1.append q2⟩ fun _ => ⟨p, rfl, hp⟩⟩
theorem ev_repL {a : List PyData} {k : Int} (ha : EvS ta Γ (.d (.list a) κ)) (hb : EvS tb Γ (dI k)) (h1 : 0 ≤ k ∧ k < 1000) (hl : a.length * k.toNat ≤ 100000) : EvS (tOp rRep ta tb) Γ (.own (List.replicate k.toNat a).flatten κ) :=
  ev_op2 ha hb rfl rfl fun B H v w Q e r1 r2 q => by
    obtain ⟨p1, vs, rfl, h2, q1⟩ := RpK.lst_inv r1
    exact ⟨p1, k, vs, rfl, RpK.int_inv r2, e _ _ h2, by omega, by omega, sl1000 (by rw [q1.len]; exact hl), fun p hp => q _ B _ (Step.newH e hp) ⟨p, _, rfl, e.free hp, upd_same, q1.rep _⟩ fun _ => ⟨p, rfl, hp⟩⟩
/-- a built-in called -/
theorem ev_cb {rc : List V → Hp → VK → Prop} {ta : TA} {ss : List Sl} (h : EvA ta Γ ss) (hr : ∀ B H vs Q, Gr B H → SlA B H vs ss → RVal B H Q s → rc vs H Q) : EvS (tCB rc ta) Γ s := fun B H σ Q g q =>
  h B H σ _ g fun vs B1 H1 st1 r1 => hr B1 H1 vs Q st1.bh r1 fun z B2 H2 st2 r2 f2 => q z B2 H2 (st1.trans st2) r2 fun o => by
    obtain ⟨a, e, hn⟩ := f2 o
    exact ⟨a, e, st1.hh.free hn⟩
theorem SlA.hd {B H : Hp} {v : V} {vs : List V} {s : Sl} {ss : List Sl} (h : SlR B H v s) (n : s.isOwn = false) (r : SlA B H vs ss) : SlA B H (v :: vs) (s :: ss) := .cons ⟨h, n⟩ r
theorem SlA.one {B H : Hp} {vs : List V} {s : Sl} (h : SlA B H vs [s]) : ∃ v, vs = [v] ∧ SlR B H v s := by
  cases h with
  | cons a r => cases r; exact ⟨_, rfl, a.1⟩
theorem SlA.two {B H : Hp} {vs : List V} {s t : Sl} (h : SlA B H vs [s, t]) : ∃ v w, vs = [v, w] ∧ SlR B H v s ∧ SlR B H w t := by
  cases h with
  | cons a r => cases r with | cons b r => cases r; exact ⟨_, _, rfl, a.1, b.1⟩
abbrev rLen (K : PySem.W.Frag) : List V → Hp → VK → Prop := fun xs H Q => ∃ x n, xs = [x] ∧ LenV K x H n ∧ Q (.int n) H
theorem ev_lenL {ds : List PyData} (h : EvS te Γ (.d (.list ds) κ)) : EvS (tCB (rLen K) (tCons te tNil)) Γ (dI ds.length) :=
  ev_cb (ea_cons h ea_nil) fun B H vs Q e r q => by
    obtain ⟨v, rfl, r1⟩ := r.one
    obtain ⟨a, ws, rfl, h1, q1⟩ := RpK.lst_inv r1
    exact ⟨_, ds.length, rfl, .inl ⟨ws, SqL.of (e _ _ h1), q1.len.symm⟩, q.now e (RpK.int _) rfl⟩
theorem ev_lenT {ds : List PyData} (h : EvS te Γ (.d (.tuple ds) κ)) : EvS (tCB (rLen K) (tCons te tNil)) Γ (dI ds.length) :=
  ev_cb (ea_cons h ea_nil) fun B H vs Q e r q => by
    obtain ⟨v, rfl, r1⟩ := r.one
    obtain ⟨a, ws, rfl, h1, q1⟩ := RpK.tup_inv r1
    exact ⟨_, ds.length, rfl, .inr ⟨ws, Or.inl (rd_mono e h1), q1.len.symm⟩, q.now e (RpK.int _) rfl⟩
theorem ev_lenS {z : Str} (h : EvS te Γ (dS z)) (hl : z.length ≤ 100000) : EvS (tCB (rLen K) (tCons te tNil)) Γ (dI z.length) :=
  ev_cb (ea_cons h ea_nil) fun B H vs Q e r q => by
    obtain ⟨v, rfl, r1⟩ := r.one
    obtain rfl := RpK.str_inv r1
    exact ⟨_, z.length, rfl, ⟨sl1000 hl, rfl⟩, q.now e (RpK.int _) rfl⟩
abbrev rListOf (K : PySem.W.Frag) : List V → Hp → VK → Prop := fun xs H Q => ∃ p ys, xs = [.ref p] ∧ (SqL K H p ys ∨ SqT K H p ys) ∧ ∀ l, H l = none → Q (.ref l) (upd H l (.lst ys))
theorem ev_listL {ds : List PyData} (h : EvS te Γ (.d (.list ds) κ)) : EvS (tCB (rListOf K) (tCons te tNil)) Γ (.own ds κ) :=
  ev_cb (ea_cons h ea_nil) fun B H vs Q e r q => by
    obtain ⟨v, rfl, r1⟩ := r.one
    obtain ⟨a, ws, rfl, h1, q1⟩ := RpK.lst_inv r1
    exact ⟨a, ws, rfl, .inl (SqL.of (e _ _ h1)), fun l hl => q _ B _ (Step.newH e hl) ⟨l, ws, rfl, e.free hl, upd_same, q1⟩ fun _ => ⟨l, rfl, hl⟩⟩
abbrev rTupOf (K : PySem.W.Frag) : List V → Hp → VK → Prop := fun xs H Q => ∃ p ys, xs = [.ref p] ∧ ((SqL K H p ys ∧ ∀ l, H l = none → Q (.ref l) (upd H l (.tup ys))) ∨ (SqT K H p ys ∧ Q (.ref p) H))
theorem ev_tupL {ds : List PyData} (h : EvS te Γ (.d (.list ds) κ)) (nf : κ ≠ .fz := by intro z; cases z) : EvS (tCB (rTupOf K) (tCons te tNil)) Γ (.d (.tuple ds) κ) :=
  ev_cb (ea_cons h ea_nil) fun B H vs Q e r q => by
    obtain ⟨v, rfl, r1⟩ := r.one
    obtain ⟨a, ws, rfl, h1, q1⟩ := RpK.lst_inv r1
    exact ⟨a, ws, rfl, .inl ⟨SqL.of (e _ _ h1), fun l hl => q _ (upd B l (.tup ws)) _ (Step.new e hl) (RpK.tup nf upd_same (RpKA.mono (Gr.new (e.free hl)) q1)) (.no rfl)⟩⟩
abbrev rInt1 : List V → Hp → VK → Prop := fun xs H Q => (∃ i, xs = [.int i] ∧ Q (.int i) H) ∨ ∃ k, xs = [.bl k] ∧ Q (.int (if k then 1 else 0)) H
theorem ev_intB {b : Bool} (h : EvS te Γ (dB b)) : EvS (tCB rInt1 (tCons te tNil)) Γ (dI (if b then 1 else 0)) :=
  ev_cb (ea_cons h ea_nil) fun B H vs Q e r q => by
    obtain ⟨v, rfl, r1⟩ := r.one
    obtain rfl := RpK.bl_inv r1
    exact .inr ⟨b, rfl, q.now e (RpK.int _) rfl⟩
abbrev rMin2 : List V → Hp → VK → Prop := fun xs H Q => ∃ i j, xs = [.int i, .int j] ∧ Q (.int (if j < i then j else i)) H
theorem ev_min2 {i j : Int} (h1 : EvS ta Γ (dI i)) (h2 : EvS tb Γ (dI j)) : EvS (tCB rMin2 (tCons ta (tCons tb tNil))) Γ (dI (if j < i then j else i)) :=
  ev_cb (ea_cons h1 (ea_cons h2 ea_nil)) fun B H vs Q e r q => by
    obtain ⟨v, w, rfl, r1, r2⟩ := r.two
    obtain rfl := RpK.int_inv r1
    obtain rfl := RpK.int_inv r2
    exact ⟨i, j, rfl, q.now e (RpK.int _) rfl⟩
theorem ev_sumL {ns : List Int} (h : EvS te Γ (.d (.list (ns.map PyData.int)) κ)) : EvS (tCB (rSum K) (tCons te tNil)) Γ (dI ns.sum) :=
  ev_cb (ea_cons h ea_nil) fun B H vs Q e r q => by
    obtain ⟨v, rfl, r1⟩ := r.one
    obtain ⟨a, ws, rfl, h1, q1⟩ := RpK.lst_inv r1
    rw [q1.ints] at h1
    exact ⟨a, ns, rfl, SqL.of (e _ _ h1), q.now e (RpK.int _) rfl⟩
/-! ### a def called -/
structure Xc where
  cls : Addr
  fs : Option (List (Str × Sl)) := none
def XcR (H0 B H : Hp) (x : Xc) (cls : Value) (d : Option Addr) : Prop := cls = .ref x.cls ∧ match x.fs with
  | none => d = none
  | some fs => ∃ (dd : Addr) (vs : List (Str × V)), d = some dd ∧ H dd = some (.xd vs) ∧ B dd = none ∧ Paired (fun p q => p.1 = q.1 ∧ SlR B H p.2 q.2 ∧ Frs H0 p.2 q.2) vs fs
abbrev Prom := List Sl → Sl → Prop
abbrev PromX := List Sl → Xc → Prop
abbrev noX : PromX := fun _ _ => False
def spD (Pf : Prom) (Px : PromX) : Sp := fun vs H Q E => ∃ B ss, Gr B H ∧ SlA B H vs ss ∧ ((∃ s, Pf ss s ∧ RVal B H Q s) ∨ ∃ x, Px ss x ∧ ∀ cls d B' H', Step B H B' H' → XcR H B' H' x cls d → E cls d H')
theorem ev_call {Pf : Prom} {Px : PromX} {E : XK} {ta : TA} {ss : List Sl} (h : EvA ta Γ ss) (hp : Pf ss s) : EvS (tCall (spD Pf Px) [] E ta) Γ s := fun B H σ Q g q =>
  h B H σ _ g fun vs B1 H1 st1 r1 => ⟨B1, ss, st1.bh, by rw [List.append_nil]; exact r1, .inl ⟨s, hp, fun z B2 H2 st2 r2 f2 => q z B2 H2 (st1.trans st2) r2 fun o => by
    obtain ⟨a, e, hn⟩ := f2 o
    exact ⟨a, e, st1.hh.free hn⟩⟩⟩
/-- a call that raises x -/
def EvX (E : XK) (te : TE) (Γ : Cxt) (x : Xc) : Prop := ∀ B H σ Q, GR B H σ Γ → (∀ cls d B' H', Step B H B' H' → XcR H B' H' x cls d → E cls d H') → te σ H Q
def EvAX (E : XK) (ta : TA) (Γ : Cxt) (x : Xc) : Prop := ∀ B H σ Q, GR B H σ Γ → (∀ cls d B' H', Step B H B' H' → XcR H B' H' x cls d → E cls d H') → ta σ H Q
theorem XcR.back {H0 H1 B H : Hp} {x : Xc} {cls : Value} {d : Option Addr} (h : XcR H1 B H x cls d) (e : Gr H0 H1) : XcR H0 B H x cls d := by
  obtain ⟨h1, h2⟩ := h
  refine ⟨h1, ?_⟩
  cases hf : x.fs with
  | none => rw [hf] at h2; exact h2
  | some fs =>
    rw [hf] at h2
    obtain ⟨dd, vs, e1, e2, e3, e4⟩ := h2
    exact ⟨dd, vs, e1, e2, e3, Paired.mapP e4 fun p q r => ⟨r.1, r.2.1, fun o => let ⟨a, ea, hn⟩ := r.2.2 o; ⟨a, ea, e.free hn⟩⟩⟩
theorem ex_call {Pf : Prom} {Px : PromX} {E : XK} {ta : TA} {ss : List Sl} {xc : Xc} (h : EvA ta Γ ss) (hp : Px ss xc) : EvX E (tCall (spD Pf Px) [] E ta) Γ xc := fun B H σ Q g q =>
  h B H σ _ g fun vs B1 H1 st1 r1 => ⟨B1, ss, st1.bh, by rw [List.append_nil]; exact r1, .inr ⟨xc, hp, fun cls d B2 H2 st2 r2 => q cls d B2 H2 (st1.trans st2) (r2.back st1.hh)⟩⟩
theorem ex_callA {sp : Sp} {dvs : List V} {E E' : XK} {ta : TA} {xc : Xc} (h : EvAX E ta Γ xc) : EvX E (tCall sp dvs E' ta) Γ xc := fun B H σ Q g q => h B H σ _ g q
theorem xa_head {E : XK} {tr : TA} {xc : Xc} (h : EvX E te Γ xc) : EvAX E (tCons te tr) Γ xc := fun B H σ Q g q => h B H σ _ g q
theorem xa_tail {E : XK} {tr : TA} {xc : Xc} (h : EvS te Γ s) (hr : EvAX E tr Γ xc) : EvAX E (tCons te tr) Γ xc := fun B H σ Q g q =>
  h B H σ _ g fun v B1 H1 st1 r1 _ => hr B1 H1 σ _ (g.step st1) fun cls d B2 H2 st2 r2 => q cls d B2 H2 (st1.trans st2) (r2.back st1.hh)
theorem ex_opL {E : XK} {xc : Xc} (h : EvX E ta Γ xc) : EvX E (tOp r ta tb) Γ xc := fun B H σ Q g q => h B H σ _ g q
theorem ex_tup {E : XK} {ta : TA} {xc : Xc} (h : EvAX E ta Γ xc) : EvX E (tTup ta) Γ xc := fun B H σ Q g q => h B H σ _ g q
theorem ex_cb {E : XK} {rc : List V → Hp → VK → Prop} {ta : TA} {xc : Xc} (h : EvAX E ta Γ xc) : EvX E (tCB rc ta) Γ xc := fun B H σ Q g q => h B H σ _ g q
/-! ### fields, methods, dicts -/
/-- φ is an instance of the class at C with the field f, that holds s -/
def Fld (φ : Pv) (C : Addr) (f : Str) (s : Sl) : Prop := ∀ B v, φ B v → ∃ a dx fs w, v = .ref a ∧ B a = some (.ins C dx fs) ∧ fs.lookup f = some w ∧ SlR B B w s
theorem SlR.grow {B B' H H' : Hp} {v : V} (h : SlR B H v s) (hn : s.isOwn = false) (e : Gr B B') : SlR B' H' v s := by
  cases s with
  | d x k => exact RpK.mono e h
  | ab φ => exact Ab.mono h e
  | own xs k => cases hn
  | owd xs => cases hn
theorem ev_fld {φ : Pv} {C : Addr} {f : Str} (h : EvS te Γ (.ab φ)) (hc : Cls K C) (ha : NoAttr K C f) (hf : Fld φ C f s) (hn : s.isOwn = false := by rfl) : EvS (tFld K te f) Γ s :=
  ev_un1 (r1 := fun x H1 Q => ∃ a C dx fs v, x = .ref a ∧ H1 a = some (.ins C dx fs) ∧ Cls K C ∧ NoAttr K C f ∧ fs.lookup f = some v ∧ Q v H1) h fun B H v Q e r1 q => by
    obtain ⟨B0, e0, p⟩ := r1
    obtain ⟨a, dx, fs, w, rfl, h1, h2, h3⟩ := hf B0 v p
    exact ⟨a, C, dx, fs, w, rfl, e _ _ (e0 _ _ h1), hc, ha, h2, q.now e (h3.grow hn e0) hn⟩
/-- φ is an instance of the class at C, m no attribute of it -/
def Rcv (φ : Pv) (C : Addr) (m : Str) : Prop := ∀ B v, φ B v → ∃ a dx fs, v = .ref a ∧ B a = some (.ins C dx fs) ∧ fs.lookup m = none
theorem ev_meth {φ : Pv} {C : Addr} {m : Str} {Pf : Prom} {Px : PromX} {E : XK} {tr : TA} {ss : List Sl} (h : EvS te Γ (.ab φ)) (hf : Rcv φ C m) (ha : EvA tr Γ ss) (hp : Pf (.ab φ :: ss) s) : EvS (tMeth C m (spD Pf Px) [] E te tr) Γ s := fun B H σ Q g q =>
  h B H σ _ g fun v B1 H1 st1 r1 _ => by
    obtain ⟨B0, e0, p⟩ := r1
    obtain ⟨a, dx, fs, rfl, h1, h2⟩ := hf B0 v p
    refine ⟨a, dx, fs, rfl, st1.bh _ _ (e0 _ _ h1), h2, ha B1 H1 σ _ (g.step st1) fun vs B2 H2 st2 r2 => ⟨B2, _, st2.bh, SlA.hd (s := .ab φ) (Ab.mono ⟨B0, e0, p⟩ st2.bb) rfl (by rw [List.append_nil]; exact r2), .inl ⟨s, hp, fun z B3 H3 st3 r3 f3 => q z B3 H3 ((st1.trans st2).trans st3) r3 fun o => ?_⟩⟩⟩
    obtain ⟨a, e, hn⟩ := f3 o
    exact ⟨a, e, (st1.hh.trans st2.hh).free hn⟩
def DicP (kvs : List Ent) : Pv := fun B v => ∃ a vs, v = .ref a ∧ B a = some (.dT vs) ∧ DicV B vs kvs
def encN (n : List Int) : PyData := .tuple (n.map .int)
theorem map_inl_inj {a b : List Int} (h : (a.map Sum.inl : List Key) = b.map Sum.inl) : a = b := by
  induction a generalizing b with
  | nil => cases b with
    | nil => rfl
    | cons _ _ => cases h
  | cons x a ih => cases b with
    | nil => cases h
    | cons y b =>
      rw [List.map_cons, List.map_cons] at h
      injection h with h1 h2
      injection h1 with h1
      rw [h1, ih h2]
theorem DicV.find {B : Hp} {k : List Int} : ∀ {vs : List (List Key × V)} {kvs : List Ent}, DicV B vs kvs → match kvs.find? (fun e => decide (e.1 = k)) with
    | some e => ∃ w, valV vs (k.map Sum.inl) = some w ∧ Ab e.2 B w
    | none => valV vs (k.map Sum.inl) = none
  | _, _, .nil => rfl
  | p :: vs, q :: kvs, .cons h r => by
    by_cases e : q.1 = k
    · rw [List.find?_cons_of_pos (by simpa using e)]
      exact ⟨p.2, valV_pos (by rw [h.1, e]), h.2⟩
    · rw [List.find?_cons_of_neg (by simpa using e)]
      have := DicV.find (k := k) r
      rw [valV_neg (fun z => e (map_inl_inj (h.1.symm.trans z)))]
      exact this
theorem ints_kV (n : List Int) : n.map V.int = (n.map Sum.inl : List Key).map kV := by rw [List.map_map]; rfl
theorem encN_inv {B : Hp} {v : V} {n : List Int} (h : Rp B v (encN n)) : ∃ a, v = .ref a ∧ B a = some (.tup ((n.map Sum.inl : List Key).map kV)) := by
  obtain ⟨a, vs, rfl, h1, h2⟩ := RpK.tup_pl h
  rw [h2.ints, ints_kV] at h1
  exact ⟨a, rfl, h1⟩
theorem ev_dget {kvs : List Ent} {k : List Int} {φ : Pv} {e : Ent} (h : EvS ta Γ (.ab (DicP kvs))) (hk : EvS tb Γ (.d (encN k))) (hv : kvs.find? (fun e => decide (e.1 = k)) = some e) (hs : ∀ B w, Ab e.2 B w → SlR B B w s) (hn : s.isOwn = false := by rfl) : EvS (tDGet ta tb) Γ s := fun B H σ Q g q =>
  h B H σ _ g fun v B1 H1 st1 r1 _ => hk B1 H1 σ _ (g.step st1) fun w B2 H2 st2 r2 _ => by
    obtain ⟨B0, e0, a, vs, rfl, h1, h2⟩ := r1
    obtain ⟨b, rfl, h3⟩ := encN_inv r2
    have := DicV.find (k := k) h2
    rw [hv] at this
    obtain ⟨w, hw, ab⟩ := this
    have hw' := DGet.t (H := H2) (st2.hh _ _ (st1.bh _ _ (e0 _ _ h1))) (st2.bh _ _ h3)
    rw [hw] at hw'
    exact ⟨a, w, rfl, hw', q _ B2 H2 (st1.trans st2) ((hs _ _ ab).grow hn (e0.trans st2.bb)) (.no hn)⟩
end

/-! ### statements -/
structure SR (B0 H0 B H : Hp) (σ : L2.St) (Γ : Cxt) : Prop where
  st : Step B0 H0 B H
  g : GR B H σ Γ
  fr : ∀ (i : Nat) (s : Sl) (a : Addr), Γ[i]? = some (some s) → s.isOwn = true → σ[i]? = some (some (.ref a)) → H0 a = none
structure DE where
  nx : Cxt → Prop
  rt : Sl → Prop
  bk : Cxt → Prop := fun _ => False
  ct : Cxt → Prop := fun _ => False
/-- a return of s, as the def began at B0, H0 -/
def WS (B0 H0 : Hp) (ts : TS) (Γ : Cxt) (E : DE) : Prop := ∀ B H σ D, SR B0 H0 B H σ Γ → (∀ Γ' B' H' σ', E.nx Γ' → SR B0 H0 B' H' σ' Γ' → Gr B B' → D.nx σ' H') → (∀ s v B' H', E.rt s → Step B0 H0 B' H' → SlR B' H' v s → Frs H0 v s → D.rt v H') →
  (∀ Γ' B' H' σ', E.bk Γ' → SR B0 H0 B' H' σ' Γ' → Gr B B' → D.bk σ' H') → (∀ Γ' B' H' σ', E.ct Γ' → SR B0 H0 B' H' σ' Γ' → Gr B B' → D.ct σ' H') → ts D σ H
section
variable {K : PySem.W.Frag} {Γ : Cxt} {ta tb tc te tl : TE} {t u : TT} {s : Sl} {x y z : PyData} {B0 H0 : Hp} {ts tu : TS} {E : DE} {κ κ' : TK}
theorem SR.step {B H B' H' : Hp} {σ : L2.St} (h : SR B0 H0 B H σ Γ) (e : Step B H B' H') : SR B0 H0 B' H' σ Γ := ⟨h.st.trans e, h.g.step e, h.fr⟩
theorem SR.setN {B H B' H' : Hp} {σ : L2.St} {i : Nat} {v : V} (h : SR B0 H0 B H σ Γ) (e : Step B H B' H') (r : SlR B' H' v s) (f : Frs H v s) : SR B0 H0 B' H' (σ.set i (some v)) (Γ.set i (some s)) where
  st := h.st.trans e
  g := (h.g.step e).setN r ⟨B, H, e, h.g, f⟩
  fr := fun j t a e1 o e2 => by
    rcases set_get e1 with ⟨rfl, q, hl⟩ | ⟨ne, q⟩
    · cases q
      rw [List.getElem?_set_self (by rw [h.g.len]; exact hl)] at e2
      obtain ⟨b, eb, hn⟩ := f o
      rw [eb] at e2
      cases e2
      exact h.st.hh.free hn
    · rw [List.getElem?_set_ne (fun z => ne z.symm)] at e2
      exact h.fr j t a q o e2
/-- what is forgotten of the slots -/
def Sub (Γ Γ' : Cxt) : Prop := Γ.length = Γ'.length ∧ ∀ (i : Nat) (s : Sl), Γ'[i]? = some (some s) → Γ[i]? = some (some s)
theorem GR.sub {B H : Hp} {σ : L2.St} {Γ' : Cxt} (g : GR B H σ Γ) (h : Sub Γ Γ') : GR B H σ Γ' := ⟨g.ex, g.len.trans h.1, fun i s e => g.at_ i s (h.2 i s e), fun i j s t n e1 e2 => g.ow i j s t n (h.2 i s e1) (h.2 j t e2)⟩
theorem SR.sub {B H : Hp} {σ : L2.St} {Γ' : Cxt} (g : SR B0 H0 B H σ Γ) (h : Sub Γ Γ') : SR B0 H0 B H σ Γ' := ⟨g.st, g.g.sub h, fun i s a e => g.fr i s a (h.2 i s e)⟩
theorem ws_sub {Γ' : Cxt} (h : Sub Γ Γ') (w : WS B0 H0 ts Γ' E) : WS B0 H0 ts Γ E := fun B H σ D g => w B H σ D (g.sub h)
theorem ws_mono {E' : DE} (w : WS B0 H0 ts Γ E) (h1 : ∀ Γ', E.nx Γ' → E'.nx Γ') (h2 : ∀ s, E.rt s → E'.rt s) (h3 : ∀ Γ', E.bk Γ' → E'.bk Γ') (h4 : ∀ Γ', E.ct Γ' → E'.ct Γ') : WS B0 H0 ts Γ E' := fun B H σ D g k1 k2 k3 k4 =>
  w B H σ D g (fun Γ' B' H' σ' e => k1 Γ' B' H' σ' (h1 _ e)) (fun s v B' H' e => k2 s v B' H' (h2 _ e)) (fun Γ' B' H' σ' e => k3 Γ' B' H' σ' (h3 _ e)) (fun Γ' B' H' σ' e => k4 Γ' B' H' σ' (h4 _ e))
theorem ws_seq (h : WS B0 H0 ts Γ { E with nx := fun Γ' => WS B0 H0 tu Γ' E }) : WS B0 H0 (tSeq ts tu) Γ E := fun B H σ D g k1 k2 k3 k4 =>
  h B H σ { D with nx := tu D } g (fun Γ' B' H' σ' w g' e => w B' H' σ' D g' (fun Γ'' B'' H'' σ'' q g'' e' => k1 Γ'' B'' H'' σ'' q g'' (e.trans e')) k2 (fun Γ'' B'' H'' σ'' q g'' e' => k3 Γ'' B'' H'' σ'' q g'' (e.trans e')) (fun Γ'' B'' H'' σ'' q g'' e' => k4 Γ'' B'' H'' σ'' q g'' (e.trans e'))) k2 k3 k4
theorem ws_next (h : E.nx Γ) : WS B0 H0 tNext Γ E := fun B H σ D g k1 _ _ _ => k1 Γ B H σ h g .rfl
theorem ws_brk (h : E.bk Γ) : WS B0 H0 tBreak Γ E := fun B H σ D g _ _ k3 _ => k3 Γ B H σ h g .rfl
theorem ws_cont (h : E.ct Γ) : WS B0 H0 tCont Γ E := fun B H σ D g _ _ _ k4 => k4 Γ B H σ h g .rfl
theorem ws_asg {i : Nat} (h : EvS te Γ s) (k : E.nx (Γ.set i (some s))) : WS B0 H0 (tAsg te (gName i)) Γ E := fun B H σ D g k1 _ _ _ =>
  h B H σ _ g.g fun v B' H' st r f => k1 _ B' H' _ k (g.setN st r f) st.bb
theorem ws_drop (h : EvS te Γ s) (k : E.nx Γ) : WS B0 H0 (tDrop te) Γ E := fun B H σ D g k1 _ _ _ =>
  h B H σ _ g.g fun v B' H' st r f => k1 _ B' H' _ k (g.step st) st.bb
theorem ws_ret (h : EvS te Γ s) (k : E.rt s) : WS B0 H0 (tRet te) Γ E := fun B H σ D g _ k2 _ _ =>
  h B H σ _ g.g fun v B' H' st r f => k2 s v B' H' k (g.st.trans st) r fun o => by
    obtain ⟨a, e, hn⟩ := f o
    exact ⟨a, e, g.st.hh.free hn⟩
/-- return of a name that holds an own list -/
theorem ws_retOwn {i : Nat} (h : Γ[i]? = some (some s)) (k : E.rt s) : WS B0 H0 (tRet (tVar i)) Γ E := fun B H σ D g _ k2 _ _ => by
  obtain ⟨v, h1, h2⟩ := g.g.at_ i s h
  exact ⟨v, h1, k2 s v B H k g.st h2 fun o => by
    obtain ⟨a, ob, rfl, _, _, _⟩ := own_ref h2 o
    exact ⟨a, rfl, g.fr i s a h o h1⟩⟩
theorem ws_if {b : Bool} (h : EvT t Γ b) (h1 : b = true → WS B0 H0 ts Γ E) (h2 : b = false → WS B0 H0 tu Γ E) : WS B0 H0 (tIfS t ts tu) Γ E := fun B H σ D g k1 k2 k3 k4 =>
  h B H σ _ g.g fun B' H' st => by
    have fin : ∀ {w : TS}, WS B0 H0 w Γ E → w D σ H' := fun w => w B' H' σ D (g.step st) (fun Γ' B'' H'' σ' q g' e => k1 Γ' B'' H'' σ' q g' (st.bb.trans e)) k2 (fun Γ' B'' H'' σ' q g' e => k3 Γ' B'' H'' σ' q g' (st.bb.trans e)) (fun Γ' B'' H'' σ' q g' e => k4 Γ' B'' H'' σ' q g' (st.bb.trans e))
    cases b with
    | true => exact fin (h1 rfl)
    | false => exact fin (h2 rfl)
theorem ws_never (h : False) : WS B0 H0 tNever Γ E := h.elim
/-- raising: the expression of an assignment -/
theorem wx_asg {i : Nat} {W : XK} {xc : Xc} (h : EvX W te Γ xc) (k : ∀ cls d B H, Step B0 H0 B H → XcR H0 B H xc cls d → W cls d H) : WS B0 H0 (tAsg te (gName i)) Γ E := fun B H σ D g _ _ _ _ =>
  h B H σ _ g.g fun cls d B' H' st r => k cls d B' H' (g.st.trans st) (r.back g.st.hh)
theorem wx_ret {W : XK} {xc : Xc} (h : EvX W te Γ xc) (k : ∀ cls d B H, Step B0 H0 B H → XcR H0 B H xc cls d → W cls d H) : WS B0 H0 (tRet te) Γ E := fun B H σ D g _ _ _ _ =>
  h B H σ _ g.g fun cls d B' H' st r => k cls d B' H' (g.st.trans st) (r.back g.st.hh)
theorem wx_drop {W : XK} {xc : Xc} (h : EvX W te Γ xc) (k : ∀ cls d B H, Step B0 H0 B H → XcR H0 B H xc cls d → W cls d H) : WS B0 H0 (tDrop te) Γ E := fun B H σ D g _ _ _ _ =>
  h B H σ _ g.g fun cls d B' H' st r => k cls d B' H' (g.st.trans st) (r.back g.st.hh)
/-! own lists -/
theorem own_get {B H : Hp} {σ : L2.St} {i : Nat} {xs : List PyData} (g : GR B H σ Γ) (h : Γ[i]? = some (some (.own xs κ))) : ∃ a vs, σ[i]? = some (some (.ref a)) ∧ B a = none ∧ H a = some (.lst vs) ∧ RpKA κ B vs xs := by
  obtain ⟨v, h1, a, vs, rfl, h2, h3, h4⟩ := g.at_ i _ h
  exact ⟨a, vs, h1, h2, h3, h4⟩
/-- an own object is written -/
theorem SR.write {B H : Hp} {σ : L2.St} {i : Nat} {a : Addr} {o : HO} {s' : Sl} (g : SR B0 H0 B H σ Γ) (h : Γ[i]? = some (some s)) (ho : s.isOwn = true) (hv : σ[i]? = some (some (.ref a))) (hB : B a = none) (ho' : s'.isOwn = true) (hr : SlR B (upd H a o) (.ref a) s') : SR B0 H0 B (upd H a o) σ (Γ.set i (some s')) := by
  have h0 : H0 a = none := g.fr i s a h ho hv
  have gb : Gr B (upd H a o) := fun b u q => by rw [upd_ne (ne_of_none q hB)]; exact g.g.ex b u q
  have hil : i < Γ.length := (List.getElem?_eq_some_iff.mp h).1
  refine ⟨⟨g.st.bb, fun b u q => by rw [upd_ne (ne_of_none q h0)]; exact g.st.hh b u q, gb, g.st.fr⟩, ⟨gb, by rw [List.length_set]; exact g.g.len, fun j t e => ?_, fun j k t u jk e1 e2 o1 o2 => ?_⟩, fun j t b e o e2 => ?_⟩
  · rcases set_get e with ⟨rfl, q, _⟩ | ⟨ne, q⟩
    · cases q
      exact ⟨_, hv, hr⟩
    · obtain ⟨w, h1, h2⟩ := g.g.at_ j t q
      refine ⟨w, h1, ?_⟩
      cases ht : t.isOwn with
      | false => exact h2.grow ht .rfl
      | true =>
        have nv : w ≠ .ref a := fun z => g.g.ow j i t s ne q h ht ho (by rw [h1, hv, z])
        cases t with
        | d x k => cases ht
        | ab φ => cases ht
        | own xs k =>
          obtain ⟨b, vs, rfl, q1, q2, q3⟩ := h2
          exact ⟨b, vs, rfl, q1, by rw [upd_ne (fun z => nv (by rw [z]))]; exact q2, q3⟩
        | owd xs =>
          obtain ⟨b, vs, rfl, q1, q2, q3⟩ := h2
          exact ⟨b, vs, rfl, q1, by rw [upd_ne (fun z => nv (by rw [z]))]; exact q2, q3⟩
  · rcases set_get e1 with ⟨rfl, q1, _⟩ | ⟨n1, q1⟩
    · cases q1
      rcases set_get e2 with ⟨rfl, _, _⟩ | ⟨n2, q2⟩
      · exact absurd rfl jk
      · exact g.g.ow j k s u jk h q2 ho o2
    · rcases set_get e2 with ⟨rfl, q2, _⟩ | ⟨n2, q2⟩
      · cases q2
        exact g.g.ow j k t s jk q1 h o1 ho
      · exact g.g.ow j k t u jk q1 q2 o1 o2
  · rcases set_get e with ⟨rfl, q, _⟩ | ⟨ne, q⟩
    · exact g.fr j s b h ho e2
    · exact g.fr j t b q o e2
/-- xs.append(e) -/
theorem ws_app {i : Nat} {xs : List PyData} {d : PyData} (h : Γ[i]? = some (some (.own xs κ))) (he : EvS te Γ (.d d κ)) (hl : xs.length < 100000) (k : E.nx (Γ.set i (some (.own (xs ++ [d]) κ)))) : WS B0 H0 (tDrop (tBM K "list" rAppend (tVar i) (tCons te tNil))) Γ E := fun B H σ D g k1 _ _ _ => by
  obtain ⟨a, vs, h1, h2, h3, h4⟩ := own_get g.g h
  refine ⟨.ref a, h1, Or.inl ⟨rfl, vs, SqL.of h3⟩, he B H σ _ g.g fun v B' H' st r _ => ?_⟩
  have h3' := st.hh _ _ h3
  refine ⟨a, vs, v, rfl, rfl, h3', Nat.lt_of_lt_of_le (by rw [h4.len]; exact hl) (by decide : 100000 ≤ sizeLine), ?_⟩
  have hB' : B' a = none := st.fr a _ h2 h3 trivial
  exact k1 _ B' _ σ k ((g.step st).write h rfl h1 hB' rfl ⟨a, vs ++ [v], rfl, hB', upd_same, (RpKA.mono st.bb h4).append (.one r)⟩) st.bb
/-- what reads an own list -/
theorem ws_freeze {i : Nat} {xs : List PyData} (h : Γ[i]? = some (some (.own xs κ))) (k : WS B0 H0 ts (Γ.set i (some (.d (.list xs) κ))) E) : WS B0 H0 ts Γ E := fun B H σ D g k1 k2 k3 k4 => by
  obtain ⟨a, vs, h1, h2, h3, h4⟩ := own_get g.g h
  have h0 : H0 a = none := g.fr i _ a h rfl h1
  have gb : Gr B (upd B a (.lst vs)) := Gr.new h2
  have bh : Gr (upd B a (.lst vs)) H := fun b u q => by
    by_cases hb : b = a
    · subst hb; rw [upd_same] at q; cases q; exact h3
    · rw [upd_ne hb] at q; exact g.g.ex b u q
  have sr : SR B0 H0 (upd B a (.lst vs)) H σ (Γ.set i (some (.d (.list xs) κ))) := by
    refine ⟨⟨g.st.bb.trans gb, g.st.hh, bh, fun b o e1 e2 n => by rw [upd_ne (ne_of_none e2 h0)]; exact g.st.fr b o e1 e2 n⟩, ⟨bh, by rw [List.length_set]; exact g.g.len, fun j t e => ?_, fun j k t u jk e1 e2 o1 o2 => ?_⟩, fun j t b e o e2 => ?_⟩
    · rcases set_get e with ⟨rfl, q, _⟩ | ⟨ne, q⟩
      · cases q
        exact ⟨_, h1, RpK.lst upd_same (RpKA.mono gb h4)⟩
      · obtain ⟨w, q1, q2⟩ := g.g.at_ j t q
        refine ⟨w, q1, ?_⟩
        cases ht : t.isOwn with
        | false => exact q2.grow ht gb
        | true =>
          have nv : w ≠ .ref a := fun z => g.g.ow j i t _ ne q h ht rfl (by rw [q1, h1, z])
          cases t with
          | d x k => cases ht
          | ab φ => cases ht
          | own xs k =>
            obtain ⟨b, vs, rfl, p1, p2, p3⟩ := q2
            exact ⟨b, vs, rfl, by rw [upd_ne (fun z => nv (by rw [z]))]; exact p1, p2, RpKA.mono gb p3⟩
          | owd xs =>
            obtain ⟨b, vs, rfl, p1, p2, p3⟩ := q2
            exact ⟨b, vs, rfl, by rw [upd_ne (fun z => nv (by rw [z]))]; exact p1, p2, DicV.mono gb p3⟩
    · rcases set_get e1 with ⟨rfl, q1, _⟩ | ⟨n1, q1⟩
      · cases q1; cases o1
      · rcases set_get e2 with ⟨rfl, q2, _⟩ | ⟨n2, q2⟩
        · cases q2; cases o2
        · exact g.g.ow j k t u jk q1 q2 o1 o2
    · rcases set_get e with ⟨rfl, q, _⟩ | ⟨ne, q⟩
      · cases q; cases o
      · exact g.fr j t b q o e2
  exact k _ H σ D sr (fun Γ' B' H' σ' q g' e => k1 Γ' B' H' σ' q g' (gb.trans e)) k2 (fun Γ' B' H' σ' q g' e => k3 Γ' B' H' σ' q g' (gb.trans e)) (fun Γ' B' H' σ' q g' e => k4 Γ' B' H' σ' q g' (gb.trans e))
end
end TG
set_option Elab.async false
set_option linter.all false
set_option maxRecDepth 100000
set_option maxHeartbeats 4000000
/-! FW3: own lists read on the way, written; loops; comprehensions; a def's promise. -/
namespace TG
open PySem PySem.Spec PyProof.Rows L2

section
variable {K : PySem.W.Frag} {Γ : Cxt} {ta tb tc te tl : TE} {t u : TT} {s : Sl} {x y z : PyData} {B0 H0 : Hp} {ts tu : TS} {E : DE} {κ κ' : TK}
/-- an own list comes into the view -/
theorem GR.freeze {B H : Hp} {σ : L2.St} {i : Nat} {xs : List PyData} (g : GR B H σ Γ) (h : Γ[i]? = some (some (.own xs κ))) : ∃ a vs, B a = none ∧ H a = some (.lst vs) ∧ GR (upd B a (.lst vs)) H σ (Γ.set i (some (.d (.list xs) κ))) := by
  obtain ⟨a, vs, h1, h2, h3, h4⟩ := own_get g h
  have gb : Gr B (upd B a (.lst vs)) := Gr.new h2
  refine ⟨a, vs, h2, h3, fun b u q => ?_, by rw [List.length_set]; exact g.len, fun j t e => ?_, fun j k t u jk e1 e2 o1 o2 => ?_⟩
  · by_cases hb : b = a
    · subst hb; rw [upd_same] at q; cases q; exact h3
    · rw [upd_ne hb] at q; exact g.ex b u q
  · rcases set_get e with ⟨rfl, q, _⟩ | ⟨ne, q⟩
    · cases q
      exact ⟨_, h1, RpK.lst upd_same (RpKA.mono gb h4)⟩
    · obtain ⟨w, q1, q2⟩ := g.at_ j t q
      refine ⟨w, q1, ?_⟩
      cases ht : t.isOwn with
      | false => exact q2.grow ht gb
      | true =>
        have nv : w ≠ .ref a := fun z => g.ow j i t _ ne q h ht rfl (by rw [q1, h1, z])
        cases t with
        | d x k => cases ht
        | ab φ => cases ht
        | own xs k =>
          obtain ⟨b, vs, rfl, p1, p2, p3⟩ := q2
          exact ⟨b, vs, rfl, by rw [upd_ne (fun z => nv (by rw [z]))]; exact p1, p2, RpKA.mono gb p3⟩
        | owd xs =>
          obtain ⟨b, vs, rfl, p1, p2, p3⟩ := q2
          exact ⟨b, vs, rfl, by rw [upd_ne (fun z => nv (by rw [z]))]; exact p1, p2, DicV.mono gb p3⟩
  · rcases set_get e1 with ⟨rfl, q1, _⟩ | ⟨n1, q1⟩
    · cases q1; cases o1
    · rcases set_get e2 with ⟨rfl, q2, _⟩ | ⟨n2, q2⟩
      · cases q2; cases o2
      · exact g.ow j k t u jk q1 q2 o1 o2
def cutA (B : Hp) (a : Addr) : Hp := fun b => if b = a then none else B b
theorem Step.thaw {B H B' H' : Hp} {a : Addr} {vs : List V} (hB : B a = none) (ha : H a = some (.lst vs)) (st : Step (upd B a (.lst vs)) H B' H') : Step B H (cutA B' a) H' where
  bb := fun b o q => by
    have ne : b ≠ a := ne_of_none q hB
    show (if b = a then none else B' b) = some o
    rw [if_neg ne]
    exact st.bb b o (by rw [upd_ne ne]; exact q)
  hh := st.hh
  bh := fun b o q => by
    have q' : (if b = a then none else B' b) = some o := q
    by_cases e : b = a
    · rw [if_pos e] at q'; cases q'
    · rw [if_neg e] at q'; exact st.bh b o q'
  fr := fun b o q r n => by
    show (if b = a then none else B' b) = none
    by_cases e : b = a
    · rw [if_pos e]
    · rw [if_neg e]; exact st.fr b o (by rw [upd_ne e]; exact q) r n
theorem thaw_tup {B B' : Hp} {a : Addr} {vs : List V} (g : Gr (upd B a (.lst vs)) B') : ∀ b o, B' b = some o → (∀ xs, o ≠ .lst xs) → cutA B' a b = some o := fun b o q n => by
  show (if b = a then none else B' b) = _
  by_cases e : b = a
  · rw [e, g a _ upd_same] at q; cases q; exact absurd rfl (n _)
  · rw [if_neg e]; exact q
theorem ev_thaw {i : Nat} {xs : List PyData} {d : PyData} (h : Γ[i]? = some (some (.own xs κ))) (e : EvS te (Γ.set i (some (.d (.list xs) κ))) (.d d κ')) (n : noL d = true) : EvS te Γ (.d d κ') := fun B H σ Q g q => by
  obtain ⟨a, vs, h1, h2, g2⟩ := g.freeze h
  exact e _ H σ Q g2 fun v B' H' st r f => q v _ H' (st.thaw h1 h2) (RpK.tups (fun b xs q => thaw_tup st.bb b _ q (by intro _ z; cases z)) (fun b o xs q => thaw_tup st.bb b _ q (by intro _ z; cases z)) r n) (.no rfl)
theorem ev_thawO {i : Nat} {xs ys : List PyData} (h : Γ[i]? = some (some (.own xs κ))) (e : EvS te (Γ.set i (some (.d (.list xs) κ))) (.own ys κ')) (n : noLA ys = true) : EvS te Γ (.own ys κ') := fun B H σ Q g q => by
  obtain ⟨a, vs, h1, h2, g2⟩ := g.freeze h
  refine e _ H σ Q g2 fun v B' H' st r f => ?_
  obtain ⟨p, ws, rfl, r1, r2, r3⟩ := r
  refine q _ _ H' (st.thaw h1 h2) ⟨p, ws, rfl, ?_, r2, RpKA.tups (fun b xs q => thaw_tup st.bb b _ q (by intro _ z; cases z)) (fun b o xs q => thaw_tup st.bb b _ q (by intro _ z; cases z)) r3 n⟩ f
  show (if p = a then none else B' p) = none
  by_cases e : p = a
  · rw [if_pos e]
  · rw [if_neg e]; exact r1
theorem et_thaw {i : Nat} {xs : List PyData} {b : Bool} (h : Γ[i]? = some (some (.own xs κ))) (e : EvT t (Γ.set i (some (.d (.list xs) κ))) b) : EvT t Γ b := fun B H σ Q g q => by
  obtain ⟨a, vs, h1, h2, g2⟩ := g.freeze h
  exact e _ H σ Q g2 fun B' H' st => q _ H' (st.thaw h1 h2)
/-- xs[i] = e, the own list xs in a slot -/
theorem ws_setI {i : Nat} {xs : List PyData} {d : PyData} {j : Nat} (h : Γ[i]? = some (some (.own xs κ))) (he : EvS te Γ (.d d κ)) (hi : EvS ta Γ (dI (j : Int))) (hj : j < xs.length) (k : E.nx (Γ.set i (some (.own (xs.set j d) κ)))) :
    WS B0 H0 (tAsg te (gSub (tVar i) ta rSetL)) Γ E := fun B H σ D g k1 _ _ _ => he B H σ _ g.g fun v B1 H1 st1 r1 _ => by
  obtain ⟨a, vs, h1, h2, h3, h4⟩ := own_get g.g h
  refine ⟨.ref a, h1, hi B1 H1 σ _ (g.g.step st1) fun w B2 H2 st2 r2 _ => ?_⟩
  have st := st1.trans st2
  have h3' := st.hh _ _ h3
  have hB' : B2 a = none := st.fr a _ h2 h3 trivial
  refine ⟨a, vs, (j : Int), j, rfl, RpK.int_inv r2, h3', ixN_ofNat (by rw [h4.len]; exact hj), ?_⟩
  exact k1 _ B2 _ σ k ((g.step st).write h rfl h1 hB' rfl ⟨a, vs.set j v, rfl, hB', upd_same, RpKA.set (RpK.mono st2.bb r1) j (RpKA.mono st.bb h4)⟩) st.bb
theorem ws_rev {i : Nat} {xs : List PyData} (h : Γ[i]? = some (some (.own xs κ))) (k : E.nx (Γ.set i (some (.own xs.reverse κ)))) : WS B0 H0 (tDrop (tBM0 K "list" rReverse (tVar i))) Γ E := fun B H σ D g k1 _ _ _ => by
  obtain ⟨a, vs, h1, h2, h3, h4⟩ := own_get g.g h
  exact ⟨.ref a, h1, Or.inl ⟨rfl, vs, SqL.of h3⟩, a, vs, rfl, rfl, h3, k1 _ B _ σ k (g.write h rfl h1 h2 rfl ⟨a, vs.reverse, rfl, h2, upd_same, h4.rev⟩) .rfl⟩
/-! loops -/
def TgS (g : TG) (x : PyData) (κ : TK) (f : Cxt → Cxt) : Prop := ∀ (B0 H0 B H : Hp) (σ : L2.St) (Γ : Cxt) (v : V) (Q : L2.St → Hp → Prop), SR B0 H0 B H σ Γ → RpK κ B v x → (∀ σ', SR B0 H0 B H σ' (f Γ) → Q σ' H) → g v σ H Q
theorem SR.set0 {B H : Hp} {σ : L2.St} {i : Nat} {v : V} (h : SR B0 H0 B H σ Γ) (r : SlR B H v s) (n : s.isOwn = false) : SR B0 H0 B H (σ.set i (some v)) (Γ.set i (some s)) := h.setN (.rfl h.g.ex) r (.no n)
theorem tg_name {j : Nat} : TgS (gName j) x κ (fun Γ => Γ.set j (some (.d x κ))) := fun B0 H0 B H σ Γ v Q g r q => q _ (g.set0 (s := .d x κ) r rfl)
theorem tg_tup2 {K : PySem.W.Frag} {i j : Nat} {a b : PyData} : TgS (gTup K 2 (gCons (gName i) (gCons (gName j) gNil))) (.tuple [a, b]) κ (fun Γ => (Γ.set i (some (.d a κ))).set j (some (.d b κ))) := fun B0 H0 B H σ Γ v Q g r q => by
  obtain ⟨p, vs, rfl, h1, h2⟩ := RpK.tup_inv r
  cases h2 with
  | cons r1 h2 => cases h2 with
    | cons r2 h2 =>
      cases h2
      exact ⟨p, _, rfl, Or.inl (rd_mono g.g.ex h1), rfl, _, _, rfl, _, _, rfl, rfl, q _ ((g.set0 (s := .d a κ) r1 rfl).set0 (s := .d b κ) r2 rfl)⟩
theorem tg_tup3 {K : PySem.W.Frag} {i j k : Nat} {a b c : PyData} : TgS (gTup K 3 (gCons (gName i) (gCons (gName j) (gCons (gName k) gNil)))) (.tuple [a, b, c]) κ (fun Γ => ((Γ.set i (some (.d a κ))).set j (some (.d b κ))).set k (some (.d c κ))) := fun B0 H0 B H σ Γ v Q g r q => by
  obtain ⟨p, vs, rfl, h1, h2⟩ := RpK.tup_inv r
  cases h2 with
  | cons r1 h2 => cases h2 with
    | cons r2 h2 => cases h2 with
      | cons r3 h2 =>
        cases h2
        exact ⟨p, _, rfl, Or.inl (rd_mono g.g.ex h1), rfl, _, _, rfl, _, _, rfl, _, _, rfl, rfl, q _ (((g.set0 (s := .d a κ) r1 rfl).set0 (s := .d b κ) r2 rfl).set0 (s := .d c κ) r3 rfl)⟩
/-- a, b = e; a, b, c = e -/
theorem ws_asgT {g : TG} {f : Cxt → Cxt} (h : EvS te Γ (.d x κ)) (hg : TgS g x κ f) (k : E.nx (f Γ)) : WS B0 H0 (tAsg te g) Γ E := fun B H σ D gr k1 _ _ _ =>
  h B H σ _ gr.g fun v B1 H1 st r _ => hg B0 H0 B1 H1 σ Γ v _ (gr.step st) r fun σ' g' => k1 _ B1 H1 σ' k g' st.bb
theorem ws_forL {g : TG} {f : PyData → Cxt → Cxt} {ds : List PyData} (h : EvS tl Γ (.d (.list ds) κ)) (hg : ∀ x ∈ ds, TgS g x κ (f x)) (I : Nat → Cxt → Prop) (h0 : I 0 Γ)
    (hs : ∀ i x Γ', ds[i]? = some x → I i Γ' → WS B0 H0 ts (f x Γ') { E with nx := I (i + 1), ct := I (i + 1), bk := E.nx }) (hd : ∀ Γ', I ds.length Γ' → E.nx Γ') : WS B0 H0 (tFor (iList K tl) g ts) Γ E := fun B H σ D gr k1 k2 k3 k4 =>
  h B H σ _ gr.g fun v B1 H1 st r _ => by
    obtain ⟨a, vs, rfl, ha, hr⟩ := RpK.lst_inv r
    have hlen := hr.len
    refine ⟨a, rfl, ⟨vs, SqL.of (st.bh _ _ ha)⟩, for_list (K := K) (a := a) (xs := vs) (fun i σ' H' => ∃ Γ' B', I i Γ' ∧ SR B0 H0 B' H' σ' Γ' ∧ Gr B1 B') ⟨Γ, B1, h0, gr.step st, .rfl⟩ (fun i σ' H' _ ⟨Γ', B', _, g', e'⟩ => SqL.of (g'.g.ex _ _ (e' _ _ ha))) ?_ ?_⟩
    · rintro i w σ' H' hi ⟨Γ', B', hI, g', e'⟩
      obtain ⟨d, hd', rd⟩ := hr.getV hi
      refine hg d (List.mem_of_getElem? hd') B0 H0 B' H' σ' Γ' w _ g' (RpK.mono e' rd) fun σ2 g2 => ?_
      refine hs i d Γ' hd' hI B' H' σ2 _ g2 (fun Γ'' B'' H'' σ'' q g'' e'' => ⟨Γ'', B'', q, g'', e'.trans e''⟩) k2 (fun Γ'' B'' H'' σ'' q g'' e'' => k1 Γ'' B'' H'' σ'' q g'' (st.bb.trans (e'.trans e''))) fun Γ'' B'' H'' σ'' q g'' e'' => ⟨Γ'', B'', q, g'', e'.trans e''⟩
    · rintro σ' H' ⟨Γ', B', hI, g', e'⟩
      rw [hlen] at hI
      exact k1 Γ' B' H' σ' (hd Γ' hI) g' (st.bb.trans e')
theorem ws_forT {g : TG} {f : PyData → Cxt → Cxt} {ds : List PyData} (h : EvS tl Γ (.d (.tuple ds) κ)) (hg : ∀ x ∈ ds, TgS g x κ (f x)) (I : Nat → Cxt → Prop) (h0 : I 0 Γ)
    (hs : ∀ i x Γ', ds[i]? = some x → I i Γ' → WS B0 H0 ts (f x Γ') { E with nx := I (i + 1), ct := I (i + 1), bk := E.nx }) (hd : ∀ Γ', I ds.length Γ' → E.nx Γ') : WS B0 H0 (tFor (iTup K tl) g ts) Γ E := fun B H σ D gr k1 k2 k3 k4 =>
  h B H σ _ gr.g fun v B1 H1 st r _ => by
    obtain ⟨a, vs, rfl, ha, hr⟩ := RpK.tup_inv r
    have hlen := hr.len
    refine ⟨a, rfl, ⟨vs, Or.inl (rd_mono st.bh ha)⟩, for_tup (K := K) (a := a) (xs := vs) (fun i σ' H' => ∃ Γ' B', I i Γ' ∧ SR B0 H0 B' H' σ' Γ' ∧ Gr B1 B') ⟨Γ, B1, h0, gr.step st, .rfl⟩ (fun i σ' H' _ ⟨Γ', B', _, g', e'⟩ => Or.inl (rd_mono g'.g.ex (rd_mono e' ha))) ?_ ?_⟩
    · rintro i w σ' H' hi ⟨Γ', B', hI, g', e'⟩
      obtain ⟨d, hd', rd⟩ := hr.getV hi
      refine hg d (List.mem_of_getElem? hd') B0 H0 B' H' σ' Γ' w _ g' (RpK.mono e' rd) fun σ2 g2 => ?_
      refine hs i d Γ' hd' hI B' H' σ2 _ g2 (fun Γ'' B'' H'' σ'' q g'' e'' => ⟨Γ'', B'', q, g'', e'.trans e''⟩) k2 (fun Γ'' B'' H'' σ'' q g'' e'' => k1 Γ'' B'' H'' σ'' q g'' (st.bb.trans (e'.trans e''))) fun Γ'' B'' H'' σ'' q g'' e'' => ⟨Γ'', B'', q, g'', e'.trans e''⟩
    · rintro σ' H' ⟨Γ', B', hI, g', e'⟩
      rw [hlen] at hI
      exact k1 Γ' B' H' σ' (hd Γ' hI) g' (st.bb.trans e')
theorem SlA.int1 {B H : Hp} {vs : List V} {n : Int} (h : SlA B H vs [dI n]) : vs = [.int n] := by
  obtain ⟨v, rfl, r⟩ := h.one
  rw [RpK.int_inv r]
theorem ws_forR {ta : TA} {n j : Nat} (h : EvA ta Γ [dI (n : Int)]) (hn : n ≤ 100000) (I : Nat → Cxt → Prop) (h0 : I 0 Γ)
    (hs : ∀ i Γ', i < n → I i Γ' → WS B0 H0 ts (Γ'.set j (some (dI (i : Int)))) { E with nx := I (i + 1), ct := I (i + 1), bk := E.nx }) (hd : ∀ Γ', I n Γ' → E.nx Γ') : WS B0 H0 (tFor (iRng1 ta) (gName j) ts) Γ E := fun B H σ D gr k1 k2 k3 k4 =>
  h B H σ _ gr.g fun vs B1 H1 st r => by
    obtain rfl := r.int1
    have e0 : ((n : Int)).toNat = n := by omega
    refine ⟨(n : Int), rfl, by omega, by omega, for_range (lo := 0) (n := ((n : Int)).toNat) (fun i σ' H' => ∃ Γ' B', I i Γ' ∧ SR B0 H0 B' H' σ' Γ' ∧ Gr B1 B') ⟨Γ, B1, h0, gr.step st, .rfl⟩ ?_ ?_⟩
    · rintro i σ' H' hi ⟨Γ', B', hI, g', e'⟩
      show ts _ (σ'.set j (some (.int ((0 : Int) + (i : Int))))) H'
      rw [Int.zero_add]
      refine hs i Γ' (by omega) hI B' H' _ _ (g'.set0 (s := dI (i : Int)) (RpK.int _) rfl) (fun Γ'' B'' H'' σ'' q g'' e'' => ⟨Γ'', B'', q, g'', e'.trans e''⟩) k2 (fun Γ'' B'' H'' σ'' q g'' e'' => k1 Γ'' B'' H'' σ'' q g'' (st.bb.trans (e'.trans e''))) fun Γ'' B'' H'' σ'' q g'' e'' => ⟨Γ'', B'', q, g'', e'.trans e''⟩
    · rintro σ' H' ⟨Γ', B', hI, g', e'⟩
      rw [e0] at hI
      exact k1 Γ' B' H' σ' (hd Γ' hI) g' (st.bb.trans e')
theorem ws_while (W : Nat → Cxt → Prop) (m0 : Nat) (h0 : W m0 Γ) (hs : ∀ m Γ', W m Γ' → ∃ b, EvT t Γ' b ∧ (b = true → WS B0 H0 ts Γ' { E with nx := fun Γ'' => ∃ m', m' < m ∧ W m' Γ'', ct := fun Γ'' => ∃ m', m' < m ∧ W m' Γ'', bk := E.nx }) ∧ (b = false → E.nx Γ')) : WS B0 H0 (tWhile t ts) Γ E := fun B H σ D gr k1 k2 k3 k4 => by
  refine ⟨fun m σ' H' => ∃ Γ' B', W m Γ' ∧ SR B0 H0 B' H' σ' Γ' ∧ Gr B B', ⟨m0, Γ, B, h0, gr, .rfl⟩, ?_⟩
  rintro m σ' H' ⟨Γ', B', hW, g', e'⟩
  obtain ⟨b, hb, h1, h2⟩ := hs m Γ' hW
  refine hb B' H' σ' _ g'.g fun B2 H2 st => ?_
  cases b with
  | true =>
    refine ⟨fun σ'' H'' => ∃ Γ'' B'', (∃ m', m' < m ∧ W m' Γ'') ∧ SR B0 H0 B'' H'' σ'' Γ'' ∧ Gr B B'', ?_, ?_⟩
    · rintro σ'' H'' ⟨Γ'', B'', ⟨m', hm, w⟩, g'', e''⟩
      exact ⟨m', hm, Γ'', B'', w, g'', e''⟩
    · exact h1 rfl B2 H2 σ' _ (g'.step st) (fun Γ'' B'' H'' σ'' q g'' e'' => ⟨Γ'', B'', q, g'', e'.trans (st.bb.trans e'')⟩) k2 (fun Γ'' B'' H'' σ'' q g'' e'' => k1 Γ'' B'' H'' σ'' q g'' (e'.trans (st.bb.trans e''))) fun Γ'' B'' H'' σ'' q g'' e'' => ⟨Γ'', B'', q, g'', e'.trans (st.bb.trans e'')⟩
  | false => exact k1 Γ' B2 H2 σ' (h2 rfl) (g'.step st) (e'.trans st.bb)
/-! comprehensions -/
def wipeG (Γ : Cxt) : List Nat → Cxt
  | [] => Γ
  | v :: vs => (wipeG Γ vs).set v none
theorem wipeG_sub : ∀ (vs : List Nat), Sub Γ (wipeG Γ vs)
  | [] => ⟨rfl, fun _ _ h => h⟩
  | v :: vs => by
    obtain ⟨h1, h2⟩ := wipeG_sub vs
    refine ⟨by unfold wipeG; rw [List.length_set]; exact h1, fun i s h => ?_⟩
    unfold wipeG at h
    rcases set_get h with ⟨_, q, _⟩ | ⟨_, q⟩
    · cases q
    · exact h2 i s q
theorem GR.wipe1 {B H : Hp} {σ : L2.St} {i : Nat} (g : GR B H σ Γ) : GR B H (σ.set i none) (Γ.set i none) where
  ex := g.ex
  len := by rw [List.length_set, List.length_set]; exact g.len
  at_ := fun j t e => by
    rcases set_get e with ⟨_, q, _⟩ | ⟨ne, q⟩
    · cases q
    · obtain ⟨v, h1, h2⟩ := g.at_ j t q
      exact ⟨v, by rw [List.getElem?_set_ne (fun z => ne z.symm)]; exact h1, h2⟩
  ow := fun j k t u jk e1 e2 o1 o2 => by
    rcases set_get e1 with ⟨_, q, _⟩ | ⟨n1, q1⟩
    · cases q
    · rcases set_get e2 with ⟨_, q, _⟩ | ⟨n2, q2⟩
      · cases q
      · rw [List.getElem?_set_ne (fun z => n1 z.symm), List.getElem?_set_ne (fun z => n2 z.symm)]
        exact g.ow j k t u jk q1 q2 o1 o2
theorem GR.wipe {B H : Hp} {σ : L2.St} (g : GR B H σ Γ) : ∀ vs : List Nat, GR B H (wipe σ vs) (wipeG Γ vs)
  | [] => g
  | v :: vs => (GR.wipe g vs).wipe1
theorem wipe_get {σ : L2.St} {i : Nat} : ∀ {vs : List Nat}, i ∈ vs → i < σ.length → (wipe σ vs)[i]? = some none
  | v :: vs, h, hl => by
    unfold L2.wipe
    by_cases e : v = i
    · subst e
      rw [List.getElem?_set_self (by rw [wipe_length]; exact hl)]
    · rw [List.getElem?_set_ne e]
      refine wipe_get ?_ hl
      rcases List.mem_cons.mp h with h | h
      · exact absurd h.symm e
      · exact h
theorem wipe_set {σ : L2.St} {j : Nat} {x : Option V} {vs : List Nat} (h : j ∈ vs) : wipe ((wipe σ vs).set j x) vs = wipe σ vs := by
  apply List.ext_getElem?
  intro i
  by_cases hi : i < σ.length
  · by_cases hm : i ∈ vs
    · rw [wipe_get hm (by rw [List.length_set, wipe_length]; exact hi), wipe_get hm hi]
    · rw [L2.wipe_out hm, List.getElem?_set_ne (fun e => hm (by rw [← e]; exact h))]
  · have l1 : (wipe ((wipe σ vs).set j x) vs).length = σ.length := by rw [wipe_length, List.length_set, wipe_length]
    rw [List.getElem?_eq_none (by rw [l1]; omega), List.getElem?_eq_none (by rw [wipe_length]; omega)]
theorem filter_take {α : Type} {p : α → Bool} {l : List α} {i : Nat} {x : α} (h : l[i]? = some x) : (l.take (i + 1)).filter p = (l.take i).filter p ++ (if p x then [x] else []) := by
  rw [List.take_add_one, h]
  simp only [Option.toList_some, List.filter_append, List.filter_cons, List.filter_nil]
/-- how far a comprehension is: the list at D holds what the first i items gave -/
def CompI (κ' : TK) (B1 H1 : Hp) (f : PyData → Bool) (g : PyData → PyData) (ds : List PyData) (D : Addr) (i : Nat) (H : Hp) : Prop := ∃ B acc, Step B1 H1 B H ∧ H1 D = none ∧ B D = none ∧ H D = some (.lst acc) ∧ RpKA κ' B acc (((ds.take i).filter f).map g)
theorem comp_turn {B1 H1 : Hp} {f : PyData → Bool} {g : PyData → PyData} {ds : List PyData} {D : Addr} {i : Nat} {H : Hp} {σ : L2.St} {j : Nat} {vs : List Nat} {v : V} {d : PyData} (gr : GR B1 H1 σ Γ) (hi : ds[i]? = some d) (hl : ds.length ≤ 100000) (rv : RpK κ B1 v d)
    (ht : EvT t ((wipeG Γ vs).set j (some (.d d κ))) (f d)) (he : f d = true → EvS te ((wipeG Γ vs).set j (some (.d d κ))) (.d (g d) κ')) (p : CompI κ' B1 H1 f g ds D i H) :
    t ((wipe σ vs).set j (some v)) H fun b H3 => if b = true then te ((wipe σ vs).set j (some v)) H3 fun y H4 => ∃ acc, H4 D = some (.lst acc) ∧ acc.length < sizeLine ∧ CompI κ' B1 H1 f g ds D (i + 1) (upd H4 D (.lst (acc ++ [y]))) else CompI κ' B1 H1 f g ds D (i + 1) H3 := by
  obtain ⟨B, acc, st, n0, hn, hD, ra⟩ := p
  have g2 : GR B H ((wipe σ vs).set j (some v)) ((wipeG Γ vs).set j (some (.d d κ))) := ((gr.step st).wipe vs).set0 (s := .d d κ) (RpK.mono st.bb rv) rfl
  refine ht B H _ _ g2 fun B2 H2 st2 => ?_
  have hD2 := st2.hh _ _ hD
  have hn2 : B2 D = none := st2.fr D _ hn hD trivial
  cases hf : f d with
  | true =>
    refine he hf B2 H2 _ _ (g2.step st2) fun y B3 H3 st3 r3 _ => ?_
    have hD3 := st3.hh _ _ hD2
    have hn3 : B3 D = none := st3.fr D _ hn2 hD2 trivial
    have hacc : acc.length < sizeLine := by
      have q1 := ra.len
      rw [List.length_map] at q1
      have q2 := List.length_filter_le f (ds.take i)
      have q3 : (ds.take i).length ≤ i := List.length_take_le _ _
      have q4 := (List.getElem?_eq_some_iff.mp hi).1
      exact Nat.lt_of_lt_of_le (show acc.length < 100001 by omega) (by decide)
    have stt := (st.trans st2).trans st3
    refine ⟨acc, hD3, hacc, B3, acc ++ [y], ⟨stt.bb, fun b o q => ?_, fun b o q => ?_, stt.fr⟩, n0, hn3, upd_same, ?_⟩
    · rw [upd_ne (ne_of_none q n0)]; exact stt.hh b o q
    · rw [upd_ne (ne_of_none q hn3)]; exact stt.bh b o q
    · rw [filter_take hi, if_pos hf, List.map_append]
      exact (RpKA.mono (st2.bb.trans st3.bb) ra).append (.one r3)
  | false =>
    refine ⟨B2, acc, st.trans st2, n0, hn2, hD2, ?_⟩
    rw [filter_take hi, hf]
    simp only [Bool.false_eq_true, if_false, List.append_nil]
    exact RpKA.mono st2.bb ra
theorem comp_start {B1 H1 : Hp} {f : PyData → Bool} {g : PyData → PyData} {ds : List PyData} {D : Addr} (e : Gr B1 H1) (h : H1 D = none) : CompI κ' B1 H1 f g ds D 0 (upd H1 D (.lst [])) := ⟨B1, [], Step.newH e h, h, e.free h, upd_same, by simp; exact .nil⟩
theorem comp_end {B1 H1 H B H00 : Hp} {f : PyData → Bool} {g : PyData → PyData} {ds : List PyData} {D : Addr} {Q : VK} {B00 : Hp} (st : Step B00 H00 B1 H1) (p : CompI κ' B1 H1 f g ds D ds.length H) (q : RVal B00 H00 Q (.own ((ds.filter f).map g) κ')) : Q (.ref D) H := by
  obtain ⟨B, acc, st2, n0, hn, hD, ra⟩ := p
  rw [List.take_length] at ra
  exact q _ B H (st.trans st2) ⟨D, acc, rfl, hn, hD, ra⟩ fun _ => ⟨D, rfl, st.hh.free n0⟩
theorem ev_lcL {ds : List PyData} {j : Nat} {vs : List Nat} (f : PyData → Bool) (g : PyData → PyData) (h : EvS tl Γ (.d (.list ds) κ)) (hj : j ∈ vs) (hl : ds.length ≤ 100000) (ht : ∀ d ∈ ds, EvT t ((wipeG Γ vs).set j (some (.d d κ))) (f d)) (he : ∀ d ∈ ds, f d = true → EvS te ((wipeG Γ vs).set j (some (.d d κ))) (.d (g d) κ')) :
    EvS (tLc (iList K tl) (gName j) t te vs) Γ (.own ((ds.filter f).map g) κ') := fun B H σ Q gr q => h B H σ _ gr fun v B1 H1 st r _ => by
  obtain ⟨a, ws, rfl, ha, hr⟩ := RpK.lst_inv r
  refine ⟨a, rfl, ⟨ws, SqL.of (st.bh _ _ ha)⟩, fun D hD => ?_⟩
  refine lc_list (K := K) (a := a) (xs := ws) (CompI κ' B1 H1 f g ds D) (comp_start st.bh hD) (fun i H' _ p => ?_) (fun i x H' hi p => ?_) fun H' p => comp_end (H := H') (B := B1) st (by rw [← hr.len]; exact p) q
  · obtain ⟨B', _, st', _⟩ := p
    exact SqL.of (st'.hh _ _ (st.bh _ _ ha))
  · obtain ⟨d, hd, rd⟩ := hr.getV hi
    exact ⟨wipe_set hj, comp_turn (gr.step st) hd hl rd (ht d (List.mem_of_getElem? hd)) (he d (List.mem_of_getElem? hd)) p⟩
theorem ev_lcT {ds : List PyData} {j : Nat} {vs : List Nat} (f : PyData → Bool) (g : PyData → PyData) (h : EvS tl Γ (.d (.tuple ds) κ)) (hj : j ∈ vs) (hl : ds.length ≤ 100000) (ht : ∀ d ∈ ds, EvT t ((wipeG Γ vs).set j (some (.d d κ))) (f d)) (he : ∀ d ∈ ds, f d = true → EvS te ((wipeG Γ vs).set j (some (.d d κ))) (.d (g d) κ')) :
    EvS (tLc (iTup K tl) (gName j) t te vs) Γ (.own ((ds.filter f).map g) κ') := fun B H σ Q gr q => h B H σ _ gr fun v B1 H1 st r _ => by
  obtain ⟨a, ws, rfl, ha, hr⟩ := RpK.tup_inv r
  refine ⟨a, rfl, ⟨ws, Or.inl (rd_mono st.bh ha)⟩, fun D hD => ?_⟩
  refine lc_tup (K := K) (a := a) (xs := ws) (CompI κ' B1 H1 f g ds D) (comp_start st.bh hD) (fun i H' _ p => ?_) (fun i x H' hi p => ?_) fun H' p => comp_end (H := H') (B := B1) st (by rw [← hr.len]; exact p) q
  · obtain ⟨B', _, st', _⟩ := p
    exact Or.inl (rd_mono st'.hh (rd_mono st.bh ha))
  · obtain ⟨d, hd, rd⟩ := hr.getV hi
    exact ⟨wipe_set hj, comp_turn (gr.step st) hd hl rd (ht d (List.mem_of_getElem? hd)) (he d (List.mem_of_getElem? hd)) p⟩
def rngD (n : Nat) : List PyData := (List.range n).map fun (i : Nat) => PyData.int (i : Int)
theorem rngD_get {n i : Nat} (h : i < n) : (rngD n)[i]? = some (.int (i : Int)) := by simp [rngD, h]
theorem ev_lcR {ta : TA} {n j : Nat} {vs : List Nat} (f : PyData → Bool) (g : PyData → PyData) (h : EvA ta Γ [dI (n : Int)]) (hj : j ∈ vs) (hl : n ≤ 100000) (ht : ∀ i < n, EvT t ((wipeG Γ vs).set j (some (dI ((i : Nat) : Int)))) (f (.int ((i : Nat) : Int)))) (he : ∀ i < n, f (.int ((i : Nat) : Int)) = true → EvS te ((wipeG Γ vs).set j (some (dI ((i : Nat) : Int)))) (.d (g (.int ((i : Nat) : Int))) κ')) :
    EvS (tLc (iRng1 ta) (gName j) t te vs) Γ (.own (((rngD n).filter f).map g) κ') := fun B H σ Q gr q => h B H σ _ gr fun us B1 H1 st r => by
  obtain rfl := r.int1
  have e0 : ((n : Int)).toNat = n := by omega
  refine ⟨(n : Int), rfl, by omega, by omega, fun D hD => ?_⟩
  have hlen : (rngD n).length = n := by simp [rngD]
  refine lc_range (lo := 0) (n := ((n : Int)).toNat) (CompI κ' B1 H1 f g (rngD n) D) (comp_start st.bh hD) (fun i H' hi p => ?_) fun H' p => comp_end (H := H') (B := B1) st (by rw [hlen]; rw [e0] at p; exact p) q
  have hi' : i < n := by omega
  show wipe ((wipe σ vs).set j (some (.int ((0 : Int) + (i : Int))))) vs = wipe σ vs ∧ t ((wipe σ vs).set j (some (.int ((0 : Int) + (i : Int))))) H' _
  rw [Int.zero_add]
  exact ⟨wipe_set hj, comp_turn (κ := .pl) (v := .int (i : Int)) (d := .int (i : Int)) (gr.step st) (rngD_get hi') (by rw [hlen]; exact hl) (RpK.int _) (ht i hi') (he i hi') p⟩
theorem et_yes : EvT tYes Γ true := fun B H σ Q g q => q B H (.rfl g.ex)
end

/-! ### a def by its promise -/
def stG (N : List Str) (ss : List Sl) : Cxt := ss.map some ++ List.replicate (N.length - ss.length) none
theorem SlA.len {B H : Hp} : ∀ {vs : List V} {ss : List Sl}, SlA B H vs ss → vs.length = ss.length
  | _, _, .nil => rfl
  | _, _, .cons _ r => by rw [List.length_cons, List.length_cons, SlA.len r]
theorem SlA.get {B H : Hp} : ∀ {vs : List V} {ss : List Sl} {i : Nat} {s : Sl}, SlA B H vs ss → ss[i]? = some s → ∃ v, vs[i]? = some v ∧ SlR B H v s ∧ s.isOwn = false
  | _, _, _, _, .nil, e => by simp at e
  | _, _, 0, _, .cons h _, e => by simp at e; subst e; exact ⟨_, rfl, h⟩
  | _, _, i + 1, d, .cons _ r, e => by
    obtain ⟨v, h1, h2⟩ := SlA.get (i := i) (s := d) r (by simpa using e)
    exact ⟨v, by simpa using h1, h2⟩
theorem SR.start {B H : Hp} {N : List Str} {vs : List V} {ss : List Sl} (e : Gr B H) (r : SlA B H vs ss) : SR B H B H (L2.start N vs) (stG N ss) := by
  have hl := r.len
  have key : ∀ (i : Nat) (s : Sl), (stG N ss)[i]? = some (some s) → ∃ v, (L2.start N vs)[i]? = some (some v) ∧ SlR B H v s ∧ s.isOwn = false := fun i s h => by
    unfold stG at h
    unfold L2.start
    by_cases hi : i < ss.length
    · rw [List.getElem?_append_left (by simpa using hi), List.getElem?_map] at h
      cases q : ss[i]? with
      | none => rw [q] at h; cases h
      | some s' =>
        rw [q] at h
        cases h
        obtain ⟨v, h1, h2⟩ := r.get q
        exact ⟨v, by rw [List.getElem?_append_left (by simpa [hl] using hi), List.getElem?_map, h1]; rfl, h2⟩
    · rw [List.getElem?_append_right (by simpa using hi)] at h
      have := List.mem_of_getElem? h
      rw [List.mem_replicate] at this
      cases this.2
  refine ⟨.rfl e, ⟨e, ?_, fun i s h => let ⟨v, h1, h2, _⟩ := key i s h; ⟨v, h1, h2⟩, fun i j s t _ h1 _ o _ => ?_⟩, fun i s a h o _ => ?_⟩
  · unfold L2.start stG
    simp [hl]
  · obtain ⟨_, _, _, n⟩ := key i s h1
    rw [n] at o
    cases o
  · obtain ⟨_, _, _, n⟩ := key i s h
    rw [n] at o
    cases o
section
variable {P : Program} {w : World} {K : PySem.W.Frag} {mg : Str → Option Value} {base : Heap}
/-- what a def does: its body, read from the promise's slots, ends by a return of what is promised -/
theorem Fun.okD {x qual : Str} {st : Stmt} {f : Addr} {fd : FuncData} {N ps : List Str} {k : Nat} {Pf : Prom} (F : Fun K x qual st f fd) (S : FnScope N ps (defScope st)) (len : ∀ ss s, Pf ss s → ss.length = ps.length)
    (hbody : ∀ (cdv : Value) (A : Around) (outer : List Env) (h : Shared) (H : Hp) (E : XK), Room k (A.deeper (envOfC qual (defScope st) h.heap.objs.size f cdv)) → ∀ ss s, Pf ss s →
      ∃ ts, PSs (cxOf CX0 P w K mg base N qual (defScope st) f cdv A outer h H E).nox (defBody st) ts ∧ ∀ B0 H0, WS B0 H0 ts (stG N ss) { nx := fun _ => s = dN, rt := fun s' => s' = s }) : FnOk P w K mg base CX0 (k + 1) f fd ps (spD Pf noX) := by
  refine F.ok S (fun vs H Q E h => ?_) (fun cdv A outer h H vs Q E hr hsp => ?_)
  · obtain ⟨B, ss, e, r, ⟨s, hp, _⟩ | ⟨x, hx, _⟩⟩ := h
    · rw [r.len]; exact len ss s hp
    · exact hx.elim
  · obtain ⟨B, ss, e, r, ⟨s, hp, q⟩ | ⟨x, hx, _⟩⟩ := hsp
    · obtain ⟨ts, hts, ws⟩ := hbody cdv A outer h H E hr ss s hp
      refine ⟨ts, hts, ws B H B H _ _ (SR.start e r) (fun Γ' B' H' σ' hn g' _ => ?_) (fun s' v B' H' hs st r' f' => ?_) (fun _ _ _ _ z => z.elim) fun _ _ _ _ z => z.elim⟩
      · subst hn
        exact q _ B' H' g'.st RpK.non (.no rfl)
      · subst hs
        exact q v B' H' st r' f'
    · exact hx.elim
/-- .. that may raise -/
theorem Fun.okDX {x qual : Str} {st : Stmt} {f : Addr} {fd : FuncData} {N ps : List Str} {k : Nat} {Pf : Prom} {Px : PromX} (F : Fun K x qual st f fd) (S : FnScope N ps (defScope st)) (len : ∀ ss s, Pf ss s → ss.length = ps.length) (lenX : ∀ ss s, Px ss s → ss.length = ps.length)
    (hbody : ∀ (cdv : Value) (A : Around) (outer : List Env) (h : Shared) (H : Hp) (E : XK), Room k (A.deeper (envOfC qual (defScope st) h.heap.objs.size f cdv)) → ∀ ss s, Pf ss s →
      ∃ ts, PSs (cxOf (L2.CX P w) P w K mg base N qual (defScope st) f cdv A outer h H E) (defBody st) ts ∧ ∀ B0 H0, WS B0 H0 ts (stG N ss) { nx := fun _ => s = dN, rt := fun s' => s' = s })
    (hbodyX : ∀ (cdv : Value) (A : Around) (outer : List Env) (h : Shared) (H : Hp) (E : XK), Room k (A.deeper (envOfC qual (defScope st) h.heap.objs.size f cdv)) → ∀ ss xc, Px ss xc →
      ∃ ts, PSs (cxOf (L2.CX P w) P w K mg base N qual (defScope st) f cdv A outer h H E) (defBody st) ts ∧ ∀ B0 H0, (∀ cls d B H, Step B0 H0 B H → XcR H0 B H xc cls d → E cls d H) → WS B0 H0 ts (stG N ss) { nx := fun _ => False, rt := fun s' => False }) : FnOk P w K mg base (L2.CX P w) (k + 1) f fd ps (spD Pf Px) := by
  refine F.okX S (fun vs H Q E h => ?_) (fun cdv A outer h H vs Q E hr hsp => ?_)
  · obtain ⟨B, ss, e, r, ⟨s, hp, _⟩ | ⟨x, hx, _⟩⟩ := h
    · rw [r.len]; exact len ss s hp
    · rw [r.len]; exact lenX ss x hx
  · obtain ⟨B, ss, e, r, ⟨s, hp, q⟩ | ⟨x, hx, q⟩⟩ := hsp
    · obtain ⟨ts, hts, ws⟩ := hbody cdv A outer h H E hr ss s hp
      refine ⟨ts, hts, ws B H B H _ _ (SR.start e r) (fun Γ' B' H' σ' hn g' _ => ?_) (fun s' v B' H' hs st r' f' => ?_) (fun _ _ _ _ z => z.elim) fun _ _ _ _ z => z.elim⟩
      · subst hn
        exact q _ B' H' g'.st RpK.non (.no rfl)
      · subst hs
        exact q v B' H' st r' f'
    · obtain ⟨ts, hts, ws⟩ := hbodyX cdv A outer h H E hr ss x hx
      exact ⟨ts, hts, ws B H q B H _ _ (SR.start e r) (fun _ _ _ _ z => z.elim) (fun _ _ _ _ z => z.elim) (fun _ _ _ _ z => z.elim) fun _ _ _ _ z => z.elim⟩
end
end TG
set_option Elab.async false
set_option linter.all false
set_option maxRecDepth 100000
set_option maxHeartbeats 0
/-! HD: what the program's top leaves: its defs, classes, constants, by literal addresses. -/
namespace TG
open PySem PySem.Spec PyProof.Rows L2
def top (i : Nat) : Stmt := PySem.Challenge.pw_tariffgate_k47_whole_one_heading_each.main.body.getD i (.Pass ⟨0, 0, 0, 0⟩)
abbrev s_NoneClaimsinit : Stmt := inClass (top 7) 0
abbrev s_TwoClaiminit : Stmt := inClass (top 8) 0
abbrev s_iswhole : Stmt := top 10
abbrev s_isname : Stmt := top 16
abbrev s_isprefix : Stmt := top 17
abbrev s_isnumber : Stmt := top 18
abbrev s_iskind : Stmt := top 23
abbrev s_kindsof : Stmt := top 24
abbrev s_placeof : Stmt := top 25
abbrev s_folded : Stmt := top 26
abbrev s_partsof : Stmt := top 27
abbrev s_lookof : Stmt := top 29
abbrev s_keyof : Stmt := top 30
abbrev s_allrows : Stmt := top 31
abbrev s_alllooks : Stmt := top 32
abbrev s_chiefof : Stmt := top 33
abbrev s_aloneof : Stmt := top 34
abbrev s_firstat : Stmt := top 37
abbrev s_rankof : Stmt := top 38
abbrev s_Anythingclaims : Stmt := inClass (top 40) 0
abbrev s_Madeinit : Stmt := inClass (top 41) 0
abbrev s_Madeclaims : Stmt := inClass (top 41) 1
abbrev s_Usedinit : Stmt := inClass (top 42) 0
abbrev s_Usedclaims : Stmt := inClass (top 42) 1
abbrev s_Chiefinit : Stmt := inClass (top 43) 0
abbrev s_Chiefclaims : Stmt := inClass (top 43) 1
abbrev s_Overinit : Stmt := inClass (top 44) 0
abbrev s_Overclaims : Stmt := inClass (top 44) 1
abbrev s_Bothinit : Stmt := inClass (top 45) 0
abbrev s_Bothclaims : Stmt := inClass (top 45) 1
abbrev s_Eitherinit : Stmt := inClass (top 46) 0
abbrev s_Eitherclaims : Stmt := inClass (top 46) 1
abbrev s_Butinit : Stmt := inClass (top 47) 0
abbrev s_Butclaims : Stmt := inClass (top 47) 1
abbrev s_ispair : Stmt := top 48
abbrev s_plainof : Stmt := top 49
abbrev s_madeat : Stmt := top 50
abbrev s_noteof : Stmt := top 51
abbrev s_isrow : Stmt := top 56
abbrev s_rowsbynumber : Stmt := top 57
abbrev s_Treeinit : Stmt := inClass (top 58) 0
abbrev s_Treekinds : Stmt := inClass (top 58) 1
abbrev s_Treebelow : Stmt := inClass (top 58) 2
abbrev s_Treeruleat : Stmt := inClass (top 58) 4
abbrev s_Treeclaims : Stmt := inClass (top 58) 5
abbrev s_Treelooked : Stmt := inClass (top 58) 6
abbrev s_ladderof : Stmt := top 60
abbrev s_picked : Stmt := top 61
abbrev s_wayof : Stmt := top 62
abbrev s_headingof : Stmt := top 63
abbrev s_auditof : Stmt := top 64
abbrev s_Lcellat : Stmt := top 66
abbrev s_Lnames : Stmt := top 67
abbrev s_Lkinds : Stmt := top 68
abbrev s_Lthere : Stmt := top 69
abbrev s_Lrank : Stmt := top 70
abbrev s_Lclaims : Stmt := top 71
abbrev s_Lplain : Stmt := top 72
abbrev s_Lnote : Stmt := top 73
abbrev s_Lrows : Stmt := top 74
abbrev s_Lturned : Stmt := top 75
abbrev s_Lbeneath : Stmt := top 76
abbrev s_Lrowof : Stmt := top 77
abbrev s_Lmended : Stmt := top 78
abbrev s_Lparts : Stmt := top 79
abbrev s_Lotherwise : Stmt := top 80
abbrev s_Lcount : Stmt := top 81
abbrev s_Lalone : Stmt := top 82
abbrev s_Lpick : Stmt := top 83
abbrev s_Lcounts : Stmt := top 84
abbrev s_Lend : Stmt := top 85
abbrev s_Laudit : Stmt := top 86
abbrev s_Lheading : Stmt := top 87
abbrev s_Lnogoods : Stmt := top 88
abbrev s_Lstrange : Stmt := top 89
abbrev s_Lweighed : Stmt := top 90
abbrev s_Lthrough : Stmt := top 91
abbrev s_law : Stmt := top 92
def veB : List Value := [.type "ValueError", .type "Exception", .type "BaseException", .type "object"]
def eqo (a b : Option (Option Value)) : Bool := decide (a = b)
theorem ok_eqo {a b : Option (Option Value)} (h : eqo a b = true) : a = b := of_decide_eq_true h
theorem b2 {a b : Bool} (h : (a && b) = true) : a = true ∧ b = true := Bool.and_eq_true_iff.mp h
abbrev KF := PySem.W.Frag
def fGl (K : KF) (x : Str) (a : Addr) : Bool := eqo (PySem.W.nsIn K mainGlobals x) (some (some (.ref a)))
def fFr (K : KF) (x : Str) : Bool := eqo (PySem.W.nsIn K mainGlobals x) (some none)
def isI (i : Int) : Option (Option Value) → Bool
  | some (some (.int j _)) => decide (j = i)
  | _ => false
def isS (z : Str) : Option (Option Value) → Bool
  | some (some (.str y _)) => decide (y = z)
  | _ => false
def fIn (K : KF) (x : Str) (i : Int) : Bool := isI i (PySem.W.nsIn K mainGlobals x)
def fSt (K : KF) (x z : Str) : Bool := isS z (PySem.W.nsIn K mainGlobals x)
def fCls (K : KF) (C : Addr) : Bool := (PySem.W.plainGet K C Str.empty && PySem.W.hasDictIn K C) && (PySem.W.plainOver K C && eqo (PySem.W.findIn K (.ref C) "__setattr__") (some (some (.builtin "object.__setattr__"))))
def fNo (K : KF) (C : Addr) (f : Str) : Bool := eqo (PySem.W.findIn K (.ref C) f) (some none)
def fMe (K : KF) (C : Addr) (m : Str) (a : Addr) : Bool := eqo (PySem.W.findIn K (.ref C) m) (some (some (.ref a))) && (PySem.W.isFn K (.ref a) && PySem.W.keepIn K (.ref a))
def fMk (K : KF) (C a : Addr) : Bool := (PySem.W.makesIn K C && PySem.W.keepIn K (.ref C)) && (eqo (PySem.W.findIn K (.ref C) "__init__") (some (some (.ref a))) && PySem.W.isFn K (.ref a))
def fMk0 (K : KF) (C : Addr) : Bool := (PySem.W.makesIn K C && PySem.W.keepIn K (.ref C)) && eqo (PySem.W.findIn K (.ref C) "__init__") (some (some (.builtin "object.__init__")))
def fExc (K : KF) (C : Addr) : Bool := (PySem.W.excIn K C veB "ValueError.__new__" && PySem.W.keepIn K (.ref C)) && (decide (PySem.W.subIn K (.ref C) (.type "BaseException") = some true) && decide (PySem.W.typeIn K (.ref C) = some (.type "type")))
/-- an own class over ValueError, with its own __init__ -/
def oexB (K : KF) (C : Addr) : Bool := match K.lookup C with
  | some ⟨.type "type", _, .cls cd, sl⟩ => (match cd.mro, sl.toList with
    | .ref D :: bm, [_, _, _, _, some (.builtin n), _] => (D == C && n == "ValueError.__new__") && ((!cd.hasDel && cd.hasDict) && PySem.HandSPX.refsVE bm)
    | _, _ => false)
  | _ => false
def fOex (K : KF) (C a : Addr) : Bool := ((oexB K C && eqo (PySem.W.findIn K (.ref C) "__setattr__") (some (some (.builtin "object.__setattr__")))) && (decide (PySem.W.subIn K (.ref C) (.type "BaseException") = some true) && decide (PySem.W.typeIn K (.ref C) = some (.type "type")))) &&
  ((PySem.W.keepIn K (.ref C) && eqo (PySem.W.findIn K (.ref C) "__init__") (some (some (.ref a)))) && ((decide (PySem.W.typeIn K (.ref a) = some (.type "function")) && PySem.W.hasDictIn K C) &&
  (eqo (PySem.W.findIn K (.ref C) "__getattribute__") (some (some (.builtin "BaseException.__getattribute__"))) && eqo (PySem.W.findIn K (.ref C) "__getattr__") (some none))))
/-- isinstance asks an instance of this own exception class rightly -/
def fIsE (K : KF) (C : Addr) : Bool := ((eqo (PySem.W.findIn K (.ref C) "__getattribute__") (some (some (.builtin "BaseException.__getattribute__"))) && eqo (PySem.W.findIn K (.ref C) "__getattr__") (some none)) && (PySem.W.hasDictIn K C && eqo (PySem.W.findIn K (.ref C) "__class__") (some (some (.builtin "object.__class__"))))) &&
  ((eqo (PySem.W.specialIn K (.builtin "object.__class__") "__get__") (some (some (.builtin "getset_descriptor.__get__"))) && decide (PySem.W.takesIn K (.builtin "object.__class__") = some true)) && (decide (PySem.W.mroIn K C (.type "object") = some true) &&
  (decide (PySem.W.kitOne K (.ref C) (.ref 56) = some true) && (decide (PySem.W.kitOne K (.ref C) (.ref 99) = some false) && decide (PySem.W.kitOne K (.ref C) (.ref 118) = some false)))))
def fTar (K : KF) (C : Addr) : Bool := (eqo (PySem.W.specialIn K (.ref C) "__getattribute__") (some (some (.builtin "type.__getattribute__"))) && PySem.W.readsIn K C (.type "type")) &&
  (match PySem.W.findCls K (.ref C) (.type "type") "__init__" with
  | some (.val (.builtin n)) => n == "ValueError.__init__"
  | _ => false)
def faX0 : List (KF → Bool) := [fun K => fGl K "TariffError" 31,
  fun K => fGl K "NoKinds" 44,
  fun K => fGl K "NoGoods" 56,
  fun K => fGl K "NoNote" 68,
  fun K => fGl K "NoTree" 80,
  fun K => fGl K "NoneClaims" 99,
  fun K => fGl K "TwoClaim" 118,
  fun K => fGl K "Anything" 290,
  fun K => fGl K "Made" 330,
  fun K => fGl K "Used" 370,
  fun K => fGl K "Chief" 410,
  fun K => fGl K "Over" 443,
  fun K => fGl K "Both" 483,
  fun K => fGl K "Either" 523,
  fun K => fGl K "But" 563,
  fun K => fGl K "Tree" 662,
  fun K => fGl K "is_whole" 127,
  fun K => fGl K "is_name" 134,
  fun K => fGl K "is_prefix" 141,
  fun K => fGl K "is_number" 148,
  fun K => fGl K "is_kind" 155,
  fun K => fGl K "kinds_of" 162,
  fun K => fGl K "place_of" 169,
  fun K => fGl K "folded" 174,
  fun K => fGl K "parts_of" 181,
  fun K => fGl K "look_of" 186,
  fun K => fGl K "key_of" 191,
  fun K => fGl K "all_rows" 198,
  fun K => fGl K "all_looks" 203,
  fun K => fGl K "chief_of" 210]
def faX1 : List (KF → Bool) := [fun K => fGl K "alone_of" 217,
  fun K => fGl K "first_at" 224,
  fun K => fGl K "rank_of" 231,
  fun K => fGl K "is_pair" 572,
  fun K => fGl K "plain_of" 579,
  fun K => fGl K "made_at" 586,
  fun K => fGl K "note_of" 593,
  fun K => fGl K "is_row" 600,
  fun K => fGl K "rows_by_number" 607,
  fun K => fGl K "ladder_of" 673,
  fun K => fGl K "picked" 678,
  fun K => fGl K "way_of" 685,
  fun K => fGl K "heading_of" 692,
  fun K => fGl K "audit_of" 699,
  fun K => fGl K "_law_cell_at" 706,
  fun K => fGl K "_law_names" 711,
  fun K => fGl K "_law_kinds" 718,
  fun K => fGl K "_law_there" 725,
  fun K => fGl K "_law_rank" 732,
  fun K => fGl K "_law_claims" 739,
  fun K => fGl K "_law_plain" 746,
  fun K => fGl K "_law_note" 753,
  fun K => fGl K "_law_rows" 758,
  fun K => fGl K "_law_turned" 765,
  fun K => fGl K "_law_beneath" 770,
  fun K => fGl K "_law_row_of" 777,
  fun K => fGl K "_law_mended" 782,
  fun K => fGl K "_law_parts" 789,
  fun K => fGl K "_law_otherwise" 794,
  fun K => fGl K "_law_count" 801]
def faX2 : List (KF → Bool) := [fun K => fGl K "_law_alone" 806,
  fun K => fGl K "_law_pick" 811,
  fun K => fGl K "_law_counts" 818,
  fun K => fGl K "_law_end" 825,
  fun K => fGl K "_law_audit" 832,
  fun K => fGl K "_law_heading" 839,
  fun K => fGl K "_law_no_goods" 846,
  fun K => fGl K "_law_strange" 853,
  fun K => fGl K "_law_weighed" 858,
  fun K => fGl K "_law_through" 865,
  fun K => fGl K "law" 872,
  fun K => fFr K "len",
  fun K => fFr K "range",
  fun K => fFr K "isinstance",
  fun K => fFr K "int",
  fun K => fFr K "bool",
  fun K => fFr K "str",
  fun K => fFr K "tuple",
  fun K => fFr K "list",
  fun K => fFr K "sorted",
  fun K => fFr K "set",
  fun K => fFr K "max",
  fun K => fFr K "min",
  fun K => fFr K "sum",
  fun K => fIn K "SIGNS" 8,
  fun K => fIn K "PARTS" 4,
  fun K => fIn K "MOST" 99,
  fun K => fIn K "KINDS" 4,
  fun K => fIn K "ROWS_goods" 40,
  fun K => fIn K "TOGETHER" 1000000000000000]
def faX3 : List (KF → Bool) := [fun K => fIn K "DEEP" 5,
  fun K => fIn K "ROWS_tree" 24,
  fun K => fSt K "LETTERS" "abcdefghijklmnopqrstuvwxyz",
  fun K => fSt K "ONE" "one",
  fun K => fSt K "NEAR" "near",
  fun K => fCls K 290,
  fun K => fMk0 K 290,
  fun K => fMe K 290 "claims" 280,
  fun K => fCls K 330,
  fun K => fNo K 330 "stuff",
  fun K => fMk K 330 306,
  fun K => fMe K 330 "claims" 313,
  fun K => fCls K 370,
  fun K => fNo K 370 "use",
  fun K => fMk K 370 346,
  fun K => fMe K 370 "claims" 353,
  fun K => fCls K 410,
  fun K => fNo K 410 "stuff",
  fun K => fMk K 410 386,
  fun K => fMe K 410 "claims" 393,
  fun K => fCls K 443,
  fun K => fNo K 443 "one",
  fun K => fNo K 443 "other",
  fun K => fMk K 443 426,
  fun K => fMe K 443 "claims" 433,
  fun K => fCls K 483,
  fun K => fNo K 483 "one",
  fun K => fNo K 483 "other",
  fun K => fMk K 483 459,
  fun K => fMe K 483 "claims" 466]
def faX4 : List (KF → Bool) := [fun K => fCls K 523,
  fun K => fNo K 523 "one",
  fun K => fNo K 523 "other",
  fun K => fMk K 523 499,
  fun K => fMe K 523 "claims" 506,
  fun K => fCls K 563,
  fun K => fNo K 563 "one",
  fun K => fNo K 563 "other",
  fun K => fMk K 563 539,
  fun K => fMe K 563 "claims" 546,
  fun K => fCls K 662,
  fun K => fNo K 662 "order",
  fun K => fNo K 662 "rules",
  fun K => fNo K 662 "noted",
  fun K => fNo K 662 "counted",
  fun K => fMk K 662 619,
  fun K => fMe K 662 "kinds" 626,
  fun K => fMe K 662 "below" 631,
  fun K => fMe K 662 "rule_at" 645,
  fun K => fMe K 662 "claims" 652,
  fun K => fMe K 662 "looked" 659,
  fun K => fExc K 44,
  fun K => fExc K 56,
  fun K => fExc K 68,
  fun K => fExc K 80,
  fun K => decide (PySem.W.exmOne K (.ref 56) (.ref 99) = some false),
  fun K => decide (PySem.W.exmOne K (.ref 56) (.ref 118) = some false),
  fun K => decide (PySem.W.exmOne K (.ref 56) (.ref 31) = some true),
  fun K => decide (PySem.W.exmOne K (.ref 56) (.ref 56) = some true),
  fun K => decide (PySem.W.exmOne K (.ref 99) (.ref 99) = some true)]
def faX5 : List (KF → Bool) := [fun K => decide (PySem.W.exmOne K (.ref 99) (.ref 118) = some false),
  fun K => decide (PySem.W.exmOne K (.ref 99) (.ref 31) = some true),
  fun K => decide (PySem.W.exmOne K (.ref 99) (.ref 56) = some false),
  fun K => decide (PySem.W.exmOne K (.ref 118) (.ref 99) = some false),
  fun K => decide (PySem.W.exmOne K (.ref 118) (.ref 118) = some true),
  fun K => decide (PySem.W.exmOne K (.ref 118) (.ref 31) = some true),
  fun K => decide (PySem.W.exmOne K (.ref 118) (.ref 56) = some false),
  fun K => fOex K 99 96,
  fun K => fNo K 99 "parcel",
  fun K => fNo K 99 "at",
  fun K => fOex K 118 115,
  fun K => fNo K 118 "parcel",
  fun K => fNo K 118 "at",
  fun K => fNo K 118 "one",
  fun K => fNo K 118 "other",
  fun K => fTar K 31,
  fun K => fIsE K 56]
def faX : List (KF → Bool) := faX0 ++ faX1 ++ faX2 ++ faX3 ++ faX4 ++ faX5
structure Df where
  at_ : Addr
  name : Str
  qual : Str
  st : Stmt
abbrev FoV : Type := Option (Str × Str × Arguments × FuncBody × Scope × Addr × List (Str × Addr) × Value × Addr)
def fo (K : KF) (a : Addr) : FoV := (K.lookup a).bind fun o => match o.data with
  | .func g => some (g.name, g.qualname, g.params, g.body, g.scope, g.globals, g.closure, g.defaults, g.builtins)
  | _ => none
def Df.val (d : Df) : FoV := some (d.name, d.qual, defArgs d.st, .stmts (defBody d.st), defScope d.st, mainGlobals, [], .none, builtinsNs)
def cdOk (K : KF) (a : Addr) (q : Str) : Bool := match (K.lookup a).map (fun (o : Obj) => o.data) with
  | some (.func g) => PySem.W.codeIn K g.code q
  | _ => false
def Df.ok (K : KF) (d : Df) : Bool := PySem.W.keepIn K (.ref d.at_) && cdOk K d.at_ d.qual
def fdOf (K : KF) (a : Addr) : FuncData := match (K.lookup a).map (fun (o : Obj) => o.data) with
  | some (.func g) => g
  | _ => default
theorem Df.fn {K : KF} {d : Df} (e : fo K d.at_ = d.val) (c : d.ok K = true) : Fun K d.name d.qual d.st d.at_ (fdOf K d.at_) := by
  obtain ⟨c1, c2⟩ := b2 c
  unfold cdOk at c2
  unfold fo at e
  unfold fdOf
  cases q : K.lookup d.at_ with
  | none => rw [q] at e; cases e
  | some o =>
    obtain ⟨oc, od, dt, osl⟩ := o
    rw [q] at c2 e
    cases dt with
    | func g =>
      obtain ⟨n1, n2, n3, n4, n5, n6, n7, n8, n9, n10, n11, n12, n13, n14, n15⟩ := g
      have e2 : (some (n1, n2, n3, n4, n5, n6, n7, n8, n15) : FoV) = some (d.name, d.qual, defArgs d.st, .stmts (defBody d.st), defScope d.st, mainGlobals, [], .none, builtinsNs) := e
      simp only [Option.some.injEq, Prod.mk.injEq] at e2
      obtain ⟨rfl, rfl, rfl, rfl, rfl, rfl, rfl, rfl, rfl⟩ := e2
      exact ⟨⟨oc, od, n9, n10, n11, n12, n13, n14, osl, rfl, q, c2⟩, c1⟩
    | _ => cases e
def d_NoneClaimsinit : Df := ⟨96, "__init__", "NoneClaims.__init__", s_NoneClaimsinit⟩
def d_TwoClaiminit : Df := ⟨115, "__init__", "TwoClaim.__init__", s_TwoClaiminit⟩
def d_iswhole : Df := ⟨127, "is_whole", "is_whole", s_iswhole⟩
def d_isname : Df := ⟨134, "is_name", "is_name", s_isname⟩
def d_isprefix : Df := ⟨141, "is_prefix", "is_prefix", s_isprefix⟩
def d_isnumber : Df := ⟨148, "is_number", "is_number", s_isnumber⟩
def d_iskind : Df := ⟨155, "is_kind", "is_kind", s_iskind⟩
def d_kindsof : Df := ⟨162, "kinds_of", "kinds_of", s_kindsof⟩
def d_placeof : Df := ⟨169, "place_of", "place_of", s_placeof⟩
def d_folded : Df := ⟨174, "folded", "folded", s_folded⟩
def d_partsof : Df := ⟨181, "parts_of", "parts_of", s_partsof⟩
def d_lookof : Df := ⟨186, "look_of", "look_of", s_lookof⟩
def d_keyof : Df := ⟨191, "key_of", "key_of", s_keyof⟩
def d_allrows : Df := ⟨198, "all_rows", "all_rows", s_allrows⟩
def d_alllooks : Df := ⟨203, "all_looks", "all_looks", s_alllooks⟩
def d_chiefof : Df := ⟨210, "chief_of", "chief_of", s_chiefof⟩
def d_aloneof : Df := ⟨217, "alone_of", "alone_of", s_aloneof⟩
def d_firstat : Df := ⟨224, "first_at", "first_at", s_firstat⟩
def d_rankof : Df := ⟨231, "rank_of", "rank_of", s_rankof⟩
def d_Anythingclaims : Df := ⟨280, "claims", "Anything.claims", s_Anythingclaims⟩
def d_Madeinit : Df := ⟨306, "__init__", "Made.__init__", s_Madeinit⟩
def d_Madeclaims : Df := ⟨313, "claims", "Made.claims", s_Madeclaims⟩
def d_Usedinit : Df := ⟨346, "__init__", "Used.__init__", s_Usedinit⟩
def d_Usedclaims : Df := ⟨353, "claims", "Used.claims", s_Usedclaims⟩
def d_Chiefinit : Df := ⟨386, "__init__", "Chief.__init__", s_Chiefinit⟩
def d_Chiefclaims : Df := ⟨393, "claims", "Chief.claims", s_Chiefclaims⟩
def d_Overinit : Df := ⟨426, "__init__", "Over.__init__", s_Overinit⟩
def d_Overclaims : Df := ⟨433, "claims", "Over.claims", s_Overclaims⟩
def d_Bothinit : Df := ⟨459, "__init__", "Both.__init__", s_Bothinit⟩
def d_Bothclaims : Df := ⟨466, "claims", "Both.claims", s_Bothclaims⟩
def d_Eitherinit : Df := ⟨499, "__init__", "Either.__init__", s_Eitherinit⟩
def d_Eitherclaims : Df := ⟨506, "claims", "Either.claims", s_Eitherclaims⟩
def d_Butinit : Df := ⟨539, "__init__", "But.__init__", s_Butinit⟩
def d_Butclaims : Df := ⟨546, "claims", "But.claims", s_Butclaims⟩
def d_ispair : Df := ⟨572, "is_pair", "is_pair", s_ispair⟩
def d_plainof : Df := ⟨579, "plain_of", "plain_of", s_plainof⟩
def d_madeat : Df := ⟨586, "made_at", "made_at", s_madeat⟩
def d_noteof : Df := ⟨593, "note_of", "note_of", s_noteof⟩
def d_isrow : Df := ⟨600, "is_row", "is_row", s_isrow⟩
def d_rowsbynumber : Df := ⟨607, "rows_by_number", "rows_by_number", s_rowsbynumber⟩
def d_Treeinit : Df := ⟨619, "__init__", "Tree.__init__", s_Treeinit⟩
def d_Treekinds : Df := ⟨626, "kinds", "Tree.kinds", s_Treekinds⟩
def d_Treebelow : Df := ⟨631, "below", "Tree.below", s_Treebelow⟩
def d_Treeruleat : Df := ⟨645, "rule_at", "Tree.rule_at", s_Treeruleat⟩
def d_Treeclaims : Df := ⟨652, "claims", "Tree.claims", s_Treeclaims⟩
def d_Treelooked : Df := ⟨659, "looked", "Tree.looked", s_Treelooked⟩
def d_ladderof : Df := ⟨673, "ladder_of", "ladder_of", s_ladderof⟩
def d_picked : Df := ⟨678, "picked", "picked", s_picked⟩
def d_wayof : Df := ⟨685, "way_of", "way_of", s_wayof⟩
def d_headingof : Df := ⟨692, "heading_of", "heading_of", s_headingof⟩
def d_auditof : Df := ⟨699, "audit_of", "audit_of", s_auditof⟩
def d_Lcellat : Df := ⟨706, "_law_cell_at", "_law_cell_at", s_Lcellat⟩
def d_Lnames : Df := ⟨711, "_law_names", "_law_names", s_Lnames⟩
def d_Lkinds : Df := ⟨718, "_law_kinds", "_law_kinds", s_Lkinds⟩
def d_Lthere : Df := ⟨725, "_law_there", "_law_there", s_Lthere⟩
def d_Lrank : Df := ⟨732, "_law_rank", "_law_rank", s_Lrank⟩
def d_Lclaims : Df := ⟨739, "_law_claims", "_law_claims", s_Lclaims⟩
def d_Lplain : Df := ⟨746, "_law_plain", "_law_plain", s_Lplain⟩
def d_Lnote : Df := ⟨753, "_law_note", "_law_note", s_Lnote⟩
def d_Lrows : Df := ⟨758, "_law_rows", "_law_rows", s_Lrows⟩
def d_Lturned : Df := ⟨765, "_law_turned", "_law_turned", s_Lturned⟩
def d_Lbeneath : Df := ⟨770, "_law_beneath", "_law_beneath", s_Lbeneath⟩
def d_Lrowof : Df := ⟨777, "_law_row_of", "_law_row_of", s_Lrowof⟩
def d_Lmended : Df := ⟨782, "_law_mended", "_law_mended", s_Lmended⟩
def d_Lparts : Df := ⟨789, "_law_parts", "_law_parts", s_Lparts⟩
def d_Lotherwise : Df := ⟨794, "_law_otherwise", "_law_otherwise", s_Lotherwise⟩
def d_Lcount : Df := ⟨801, "_law_count", "_law_count", s_Lcount⟩
def d_Lalone : Df := ⟨806, "_law_alone", "_law_alone", s_Lalone⟩
def d_Lpick : Df := ⟨811, "_law_pick", "_law_pick", s_Lpick⟩
def d_Lcounts : Df := ⟨818, "_law_counts", "_law_counts", s_Lcounts⟩
def d_Lend : Df := ⟨825, "_law_end", "_law_end", s_Lend⟩
def d_Laudit : Df := ⟨832, "_law_audit", "_law_audit", s_Laudit⟩
def d_Lheading : Df := ⟨839, "_law_heading", "_law_heading", s_Lheading⟩
def d_Lnogoods : Df := ⟨846, "_law_no_goods", "_law_no_goods", s_Lnogoods⟩
def d_Lstrange : Df := ⟨853, "_law_strange", "_law_strange", s_Lstrange⟩
def d_Lweighed : Df := ⟨858, "_law_weighed", "_law_weighed", s_Lweighed⟩
def d_Lthrough : Df := ⟨865, "_law_through", "_law_through", s_Lthrough⟩
def d_law : Df := ⟨872, "law", "law", s_law⟩
def fnX : List Df := [d_NoneClaimsinit, d_TwoClaiminit, d_iswhole, d_isname, d_isprefix, d_isnumber, d_iskind, d_kindsof, d_placeof, d_folded, d_partsof, d_lookof, d_keyof, d_allrows, d_alllooks, d_chiefof, d_aloneof, d_firstat, d_rankof, d_Anythingclaims, d_Madeinit, d_Madeclaims, d_Usedinit, d_Usedclaims, d_Chiefinit, d_Chiefclaims, d_Overinit, d_Overclaims, d_Bothinit, d_Bothclaims, d_Eitherinit, d_Eitherclaims, d_Butinit, d_Butclaims, d_ispair, d_plainof, d_madeat, d_noteof, d_isrow, d_rowsbynumber, d_Treeinit, d_Treekinds, d_Treebelow, d_Treeruleat, d_Treeclaims, d_Treelooked, d_ladderof, d_picked, d_wayof, d_headingof, d_auditof, d_Lcellat, d_Lnames, d_Lkinds, d_Lthere, d_Lrank, d_Lclaims, d_Lplain, d_Lnote, d_Lrows, d_Lturned, d_Lbeneath, d_Lrowof, d_Lmended, d_Lparts, d_Lotherwise, d_Lcount, d_Lalone, d_Lpick, d_Lcounts, d_Lend, d_Laudit, d_Lheading, d_Lnogoods, d_Lstrange, d_Lweighed, d_Lthrough, d_law]
def asX : List Addr := [3, 31, 44, 56, 68, 80, 99, 118, 127, 134, 141, 148, 155, 162, 169, 174, 181, 186, 191, 198, 203, 210, 217, 224, 231, 262, 290, 330, 370, 410, 443, 483, 523, 563, 572, 579, 586, 593, 600, 607, 662, 673, 678, 685, 692, 699, 706, 711, 718, 725, 732, 739, 746, 753, 758, 765, 770, 777, 782, 789, 794, 801, 806, 811, 818, 825, 832, 839, 846, 853, 858, 865, 872, 30, 43, 55, 67, 79, 98, 117, 126, 133, 140, 147, 154, 161, 168, 173, 180, 185, 190, 197, 202, 209, 216, 223, 230, 261, 289, 329, 369, 409, 442, 482, 522, 562, 571, 578, 585, 592, 599, 606, 661, 672, 677, 684, 691, 698, 705, 710, 717, 724, 731, 738, 745, 752, 757, 764, 769, 776, 781, 788, 793, 800, 805, 810, 817, 824, 831, 838, 845, 852, 857, 864, 871, 96, 115, 280, 306, 313, 346, 353, 386, 393, 426, 433, 459, 466, 499, 506, 539, 546, 619, 626, 631, 645, 652, 659, 95, 114, 279, 305, 312, 345, 352, 385, 392, 425, 432, 458, 465, 498, 505, 538, 545, 618, 625, 630, 644, 651, 658, cStatics]
def frX (g : Addr → Option Obj) : KF := asX.filterMap fun a => (g a).map fun o => (a, o)
theorem frX_at {g : Addr → Option Obj} {a : Addr} {o : Obj} : ∀ l : List Addr, (l.filterMap fun a => (g a).map fun o => (a, o)).lookup a = some o → g a = some o
  | [], h => by cases h
  | b :: l, h => by
    rw [List.filterMap_cons] at h
    cases q : g b with
    | none => rw [q] at h; exact frX_at l h
    | some u =>
      rw [q] at h
      have h' : ((b, u) :: l.filterMap fun a => (g a).map fun o => (a, o)).lookup a = some o := h
      rw [List.lookup_cons] at h'
      by_cases e : a = b
      · subst e
        simp at h'
        rw [q, h']
      · have e' : (a == b) = false := by simpa using e
        rw [e'] at h'
        exact frX_at l h'
abbrev AlX : Type := Bool × List FoV
def obX (K : KF) : AlX := ((faX.all fun f => f K) && fnX.all fun d => d.ok K, fnX.map fun d => fo K d.at_)
def vaX : AlX := (true, fnX.map Df.val)
def hkX : PySem.W.Hook where
  α := AlX
  obs := fun s => obX (frX s.heap.get?)
  val := fun _ => vaX
  says := fun _ h => ∃ K : KF, K.In h ∧ obX K = vaX
  of := fun _ _ e => ⟨_, fun _ _ q => frX_at asX q, e⟩
  keeps := fun _ _ _ ⟨K, hK, c⟩ k => ⟨K, fun a o q => k a o (hK a o q), c⟩
def obS (s : PySem.W.SharedT) : AlX := obX (frX (HandSHeadRun.getT s))
theorem obS_eq (s : PySem.W.SharedT) : obS s = hkX.obs s.abs := by
  have e : HandSHeadRun.getT s = s.abs.heap.get? := funext (HandSHeadRun.getT_eq s)
  show obX (frX (HandSHeadRun.getT s)) = obX (frX s.abs.heap.get?)
  rw [e]
def nm0 : List PySem.Str := ["_wall", "TariffError", "NoKinds", "NoGoods", "NoNote", "NoTree", "NoneClaims", "TwoClaim", "is_whole", "LETTERS", "SIGNS", "PARTS", "MOST", "is_name", "is_prefix", "is_number", "KINDS", "ROWS_goods", "TOGETHER", "is_kind", "kinds_of", "place_of", "folded", "parts_of", "look_of", "key_of", "all_rows", "all_looks", "chief_of", "alone_of"]
def nm1 : List PySem.Str := ["DEEP", "first_at", "rank_of", "Note", "Anything", "Made", "Used", "Chief", "Over", "Both", "Either", "But", "is_pair", "plain_of", "made_at", "note_of", "ROWS_tree", "ONE", "NEAR", "is_row", "rows_by_number", "Tree", "ladder_of", "picked", "way_of", "heading_of", "audit_of", "_law_cell_at", "_law_names", "_law_kinds"]
def nm2 : List PySem.Str := ["_law_there", "_law_rank", "_law_claims", "_law_plain", "_law_note", "_law_rows", "_law_turned", "_law_beneath", "_law_row_of", "_law_mended", "_law_parts", "_law_otherwise", "_law_count", "_law_alone", "_law_pick", "_law_counts", "_law_end", "_law_audit", "_law_heading", "_law_no_goods", "_law_strange", "_law_weighed", "_law_through"]
def nms : List PySem.Str := nm0 ++ nm1 ++ nm2
abbrev RR : PySem.W.OpenRow := PySem.W.OpenLaw.row PySem.Challenge.rw_tariffgate_k47_whole_one_heading_each
theorem run (w : World) : HandSHeadRun.RunEq RR (PySem.W.view RR.prog [92]) hkX obS 9000 nms w := by
  intro os
  kernel_rfl
/-- what the walk leans on -/
structure Txt (K : KF) (mg : Str → Option Value) : Prop where
  fa : (faX.all fun f => f K) = true
  fn : (fnX.all fun d => d.ok K) = true
  fv : (fnX.map fun d => fo K d.at_) = fnX.map Df.val
  ns : ∀ x r, PySem.W.nsIn K mainGlobals x = some r → mg x = r
theorem Txt.of {K : KF} {h : Heap} {mg : Str → Option Value} (X : K.In h) (G : h.Ns mainGlobals mg) (c : obX K = vaX) : Txt K mg := by
  have c1 : ((faX.all fun f => f K) && fnX.all fun d => d.ok K) = true := congrArg (fun z : AlX => z.1) c
  refine ⟨(b2 c1).1, (b2 c1).2, congrArg (fun z : AlX => z.2) c, fun x r e => ?_⟩
  cases r with
  | none => exact PySem.W.mg_none_of X G e
  | some v => exact PySem.W.mg_of X G e
section
variable {K : KF} {mg : Str → Option Value}
theorem Txt.at (T : Txt K mg) (i : Nat) {f : KF → Bool} (h : faX[i]? = some f) : f K = true := List.all_eq_true.mp T.fa f (List.mem_of_getElem? h)
theorem Txt.gl (T : Txt K mg) {x : Str} {a : Addr} (c : fGl K x a = true) : mg x = some (.ref a) := T.ns x _ (ok_eqo c)
theorem Txt.fr (T : Txt K mg) {x : Str} (c : fFr K x = true) : mg x = none := T.ns x _ (ok_eqo c)
theorem Txt.iv (T : Txt K mg) {x : Str} {i : Int} (c : fIn K x i = true) : ∃ t, mg x = some (.int i t) := by
  unfold fIn at c
  have key : ∀ r, PySem.W.nsIn K mainGlobals x = r → isI i r = true → ∃ t, mg x = some (.int i t) := fun r e h => by
    match r, h with
    | some (some (.int j t)), h =>
      have ej : j = i := of_decide_eq_true h
      exact ⟨t, by rw [T.ns x _ e, ej]⟩
  exact key _ rfl c
theorem Txt.sv (T : Txt K mg) {x z : Str} (c : fSt K x z = true) : ∃ t, mg x = some (.str z t) := by
  unfold fSt at c
  have key : ∀ r, PySem.W.nsIn K mainGlobals x = r → isS z r = true → ∃ t, mg x = some (.str z t) := fun r e h => by
    match r, h with
    | some (some (.str y t)), h =>
      have ey : y = z := of_decide_eq_true h
      exact ⟨t, by rw [T.ns x _ e, ey]⟩
  exact key _ rfl c
theorem cls_f {C : Addr} (c : fCls K C = true) : Cls K C := ⟨(b2 (b2 c).1).1, (b2 (b2 c).1).2, (b2 (b2 c).2).1, ok_eqo (b2 (b2 c).2).2⟩
theorem me_f {C a : Addr} {m : Str} (c : fMe K C m a = true) : Meth K C m a := ⟨ok_eqo (b2 c).1, (b2 (b2 c).2).1, (b2 (b2 c).2).2⟩
theorem mk_f {C a : Addr} (c : fMk K C a = true) : Mk K C a := ⟨(b2 (b2 c).1).1, ok_eqo (b2 (b2 c).2).1, (b2 (b2 c).2).2, (b2 (b2 c).1).2⟩
theorem Txt.df (T : Txt K mg) (i : Nat) {d : Df} (h : fnX[i]? = some d) : Fun K d.name d.qual d.st d.at_ (fdOf K d.at_) := by
  have e2 : (fnX.map fun d => fo K d.at_)[i]? = (fnX.map Df.val)[i]? := by rw [T.fv]
  rw [List.getElem?_map, List.getElem?_map, h] at e2
  exact Df.fn (Option.some.inj e2) (List.all_eq_true.mp T.fn d (List.mem_of_getElem? h))
theorem g_TariffError (T : Txt K mg) : mg "TariffError" = some (.ref 31) := by
  have c := T.at 0 (f := fun K => fGl K "TariffError" 31) rfl
  exact T.gl c
theorem g_NoKinds (T : Txt K mg) : mg "NoKinds" = some (.ref 44) := by
  have c := T.at 1 (f := fun K => fGl K "NoKinds" 44) rfl
  exact T.gl c
theorem g_NoGoods (T : Txt K mg) : mg "NoGoods" = some (.ref 56) := by
  have c := T.at 2 (f := fun K => fGl K "NoGoods" 56) rfl
  exact T.gl c
theorem g_NoNote (T : Txt K mg) : mg "NoNote" = some (.ref 68) := by
  have c := T.at 3 (f := fun K => fGl K "NoNote" 68) rfl
  exact T.gl c
theorem g_NoTree (T : Txt K mg) : mg "NoTree" = some (.ref 80) := by
  have c := T.at 4 (f := fun K => fGl K "NoTree" 80) rfl
  exact T.gl c
theorem g_NoneClaims (T : Txt K mg) : mg "NoneClaims" = some (.ref 99) := by
  have c := T.at 5 (f := fun K => fGl K "NoneClaims" 99) rfl
  exact T.gl c
theorem g_TwoClaim (T : Txt K mg) : mg "TwoClaim" = some (.ref 118) := by
  have c := T.at 6 (f := fun K => fGl K "TwoClaim" 118) rfl
  exact T.gl c
theorem g_Anything (T : Txt K mg) : mg "Anything" = some (.ref 290) := by
  have c := T.at 7 (f := fun K => fGl K "Anything" 290) rfl
  exact T.gl c
theorem g_Made (T : Txt K mg) : mg "Made" = some (.ref 330) := by
  have c := T.at 8 (f := fun K => fGl K "Made" 330) rfl
  exact T.gl c
theorem g_Used (T : Txt K mg) : mg "Used" = some (.ref 370) := by
  have c := T.at 9 (f := fun K => fGl K "Used" 370) rfl
  exact T.gl c
theorem g_Chief (T : Txt K mg) : mg "Chief" = some (.ref 410) := by
  have c := T.at 10 (f := fun K => fGl K "Chief" 410) rfl
  exact T.gl c
theorem g_Over (T : Txt K mg) : mg "Over" = some (.ref 443) := by
  have c := T.at 11 (f := fun K => fGl K "Over" 443) rfl
  exact T.gl c
theorem g_Both (T : Txt K mg) : mg "Both" = some (.ref 483) := by
  have c := T.at 12 (f := fun K => fGl K "Both" 483) rfl
  exact T.gl c
theorem g_Either (T : Txt K mg) : mg "Either" = some (.ref 523) := by
  have c := T.at 13 (f := fun K => fGl K "Either" 523) rfl
  exact T.gl c
theorem g_But (T : Txt K mg) : mg "But" = some (.ref 563) := by
  have c := T.at 14 (f := fun K => fGl K "But" 563) rfl
  exact T.gl c
theorem g_Tree (T : Txt K mg) : mg "Tree" = some (.ref 662) := by
  have c := T.at 15 (f := fun K => fGl K "Tree" 662) rfl
  exact T.gl c
theorem g_iswhole (T : Txt K mg) : mg "is_whole" = some (.ref 127) := by
  have c := T.at 16 (f := fun K => fGl K "is_whole" 127) rfl
  exact T.gl c
theorem g_isname (T : Txt K mg) : mg "is_name" = some (.ref 134) := by
  have c := T.at 17 (f := fun K => fGl K "is_name" 134) rfl
  exact T.gl c
theorem g_isprefix (T : Txt K mg) : mg "is_prefix" = some (.ref 141) := by
  have c := T.at 18 (f := fun K => fGl K "is_prefix" 141) rfl
  exact T.gl c
theorem g_isnumber (T : Txt K mg) : mg "is_number" = some (.ref 148) := by
  have c := T.at 19 (f := fun K => fGl K "is_number" 148) rfl
  exact T.gl c
theorem g_iskind (T : Txt K mg) : mg "is_kind" = some (.ref 155) := by
  have c := T.at 20 (f := fun K => fGl K "is_kind" 155) rfl
  exact T.gl c
theorem g_kindsof (T : Txt K mg) : mg "kinds_of" = some (.ref 162) := by
  have c := T.at 21 (f := fun K => fGl K "kinds_of" 162) rfl
  exact T.gl c
theorem g_placeof (T : Txt K mg) : mg "place_of" = some (.ref 169) := by
  have c := T.at 22 (f := fun K => fGl K "place_of" 169) rfl
  exact T.gl c
theorem g_folded (T : Txt K mg) : mg "folded" = some (.ref 174) := by
  have c := T.at 23 (f := fun K => fGl K "folded" 174) rfl
  exact T.gl c
theorem g_partsof (T : Txt K mg) : mg "parts_of" = some (.ref 181) := by
  have c := T.at 24 (f := fun K => fGl K "parts_of" 181) rfl
  exact T.gl c
theorem g_lookof (T : Txt K mg) : mg "look_of" = some (.ref 186) := by
  have c := T.at 25 (f := fun K => fGl K "look_of" 186) rfl
  exact T.gl c
theorem g_keyof (T : Txt K mg) : mg "key_of" = some (.ref 191) := by
  have c := T.at 26 (f := fun K => fGl K "key_of" 191) rfl
  exact T.gl c
theorem g_allrows (T : Txt K mg) : mg "all_rows" = some (.ref 198) := by
  have c := T.at 27 (f := fun K => fGl K "all_rows" 198) rfl
  exact T.gl c
theorem g_alllooks (T : Txt K mg) : mg "all_looks" = some (.ref 203) := by
  have c := T.at 28 (f := fun K => fGl K "all_looks" 203) rfl
  exact T.gl c
theorem g_chiefof (T : Txt K mg) : mg "chief_of" = some (.ref 210) := by
  have c := T.at 29 (f := fun K => fGl K "chief_of" 210) rfl
  exact T.gl c
theorem g_aloneof (T : Txt K mg) : mg "alone_of" = some (.ref 217) := by
  have c := T.at 30 (f := fun K => fGl K "alone_of" 217) rfl
  exact T.gl c
theorem g_firstat (T : Txt K mg) : mg "first_at" = some (.ref 224) := by
  have c := T.at 31 (f := fun K => fGl K "first_at" 224) rfl
  exact T.gl c
theorem g_rankof (T : Txt K mg) : mg "rank_of" = some (.ref 231) := by
  have c := T.at 32 (f := fun K => fGl K "rank_of" 231) rfl
  exact T.gl c
theorem g_ispair (T : Txt K mg) : mg "is_pair" = some (.ref 572) := by
  have c := T.at 33 (f := fun K => fGl K "is_pair" 572) rfl
  exact T.gl c
theorem g_plainof (T : Txt K mg) : mg "plain_of" = some (.ref 579) := by
  have c := T.at 34 (f := fun K => fGl K "plain_of" 579) rfl
  exact T.gl c
theorem g_madeat (T : Txt K mg) : mg "made_at" = some (.ref 586) := by
  have c := T.at 35 (f := fun K => fGl K "made_at" 586) rfl
  exact T.gl c
theorem g_noteof (T : Txt K mg) : mg "note_of" = some (.ref 593) := by
  have c := T.at 36 (f := fun K => fGl K "note_of" 593) rfl
  exact T.gl c
theorem g_isrow (T : Txt K mg) : mg "is_row" = some (.ref 600) := by
  have c := T.at 37 (f := fun K => fGl K "is_row" 600) rfl
  exact T.gl c
theorem g_rowsbynumber (T : Txt K mg) : mg "rows_by_number" = some (.ref 607) := by
  have c := T.at 38 (f := fun K => fGl K "rows_by_number" 607) rfl
  exact T.gl c
theorem g_ladderof (T : Txt K mg) : mg "ladder_of" = some (.ref 673) := by
  have c := T.at 39 (f := fun K => fGl K "ladder_of" 673) rfl
  exact T.gl c
theorem g_picked (T : Txt K mg) : mg "picked" = some (.ref 678) := by
  have c := T.at 40 (f := fun K => fGl K "picked" 678) rfl
  exact T.gl c
theorem g_wayof (T : Txt K mg) : mg "way_of" = some (.ref 685) := by
  have c := T.at 41 (f := fun K => fGl K "way_of" 685) rfl
  exact T.gl c
theorem g_headingof (T : Txt K mg) : mg "heading_of" = some (.ref 692) := by
  have c := T.at 42 (f := fun K => fGl K "heading_of" 692) rfl
  exact T.gl c
theorem g_auditof (T : Txt K mg) : mg "audit_of" = some (.ref 699) := by
  have c := T.at 43 (f := fun K => fGl K "audit_of" 699) rfl
  exact T.gl c
theorem g_Lcellat (T : Txt K mg) : mg "_law_cell_at" = some (.ref 706) := by
  have c := T.at 44 (f := fun K => fGl K "_law_cell_at" 706) rfl
  exact T.gl c
theorem g_Lnames (T : Txt K mg) : mg "_law_names" = some (.ref 711) := by
  have c := T.at 45 (f := fun K => fGl K "_law_names" 711) rfl
  exact T.gl c
theorem g_Lkinds (T : Txt K mg) : mg "_law_kinds" = some (.ref 718) := by
  have c := T.at 46 (f := fun K => fGl K "_law_kinds" 718) rfl
  exact T.gl c
theorem g_Lthere (T : Txt K mg) : mg "_law_there" = some (.ref 725) := by
  have c := T.at 47 (f := fun K => fGl K "_law_there" 725) rfl
  exact T.gl c
theorem g_Lrank (T : Txt K mg) : mg "_law_rank" = some (.ref 732) := by
  have c := T.at 48 (f := fun K => fGl K "_law_rank" 732) rfl
  exact T.gl c
theorem g_Lclaims (T : Txt K mg) : mg "_law_claims" = some (.ref 739) := by
  have c := T.at 49 (f := fun K => fGl K "_law_claims" 739) rfl
  exact T.gl c
theorem g_Lplain (T : Txt K mg) : mg "_law_plain" = some (.ref 746) := by
  have c := T.at 50 (f := fun K => fGl K "_law_plain" 746) rfl
  exact T.gl c
theorem g_Lnote (T : Txt K mg) : mg "_law_note" = some (.ref 753) := by
  have c := T.at 51 (f := fun K => fGl K "_law_note" 753) rfl
  exact T.gl c
theorem g_Lrows (T : Txt K mg) : mg "_law_rows" = some (.ref 758) := by
  have c := T.at 52 (f := fun K => fGl K "_law_rows" 758) rfl
  exact T.gl c
theorem g_Lturned (T : Txt K mg) : mg "_law_turned" = some (.ref 765) := by
  have c := T.at 53 (f := fun K => fGl K "_law_turned" 765) rfl
  exact T.gl c
theorem g_Lbeneath (T : Txt K mg) : mg "_law_beneath" = some (.ref 770) := by
  have c := T.at 54 (f := fun K => fGl K "_law_beneath" 770) rfl
  exact T.gl c
theorem g_Lrowof (T : Txt K mg) : mg "_law_row_of" = some (.ref 777) := by
  have c := T.at 55 (f := fun K => fGl K "_law_row_of" 777) rfl
  exact T.gl c
theorem g_Lmended (T : Txt K mg) : mg "_law_mended" = some (.ref 782) := by
  have c := T.at 56 (f := fun K => fGl K "_law_mended" 782) rfl
  exact T.gl c
theorem g_Lparts (T : Txt K mg) : mg "_law_parts" = some (.ref 789) := by
  have c := T.at 57 (f := fun K => fGl K "_law_parts" 789) rfl
  exact T.gl c
theorem g_Lotherwise (T : Txt K mg) : mg "_law_otherwise" = some (.ref 794) := by
  have c := T.at 58 (f := fun K => fGl K "_law_otherwise" 794) rfl
  exact T.gl c
theorem g_Lcount (T : Txt K mg) : mg "_law_count" = some (.ref 801) := by
  have c := T.at 59 (f := fun K => fGl K "_law_count" 801) rfl
  exact T.gl c
theorem g_Lalone (T : Txt K mg) : mg "_law_alone" = some (.ref 806) := by
  have c := T.at 60 (f := fun K => fGl K "_law_alone" 806) rfl
  exact T.gl c
theorem g_Lpick (T : Txt K mg) : mg "_law_pick" = some (.ref 811) := by
  have c := T.at 61 (f := fun K => fGl K "_law_pick" 811) rfl
  exact T.gl c
theorem g_Lcounts (T : Txt K mg) : mg "_law_counts" = some (.ref 818) := by
  have c := T.at 62 (f := fun K => fGl K "_law_counts" 818) rfl
  exact T.gl c
theorem g_Lend (T : Txt K mg) : mg "_law_end" = some (.ref 825) := by
  have c := T.at 63 (f := fun K => fGl K "_law_end" 825) rfl
  exact T.gl c
theorem g_Laudit (T : Txt K mg) : mg "_law_audit" = some (.ref 832) := by
  have c := T.at 64 (f := fun K => fGl K "_law_audit" 832) rfl
  exact T.gl c
theorem g_Lheading (T : Txt K mg) : mg "_law_heading" = some (.ref 839) := by
  have c := T.at 65 (f := fun K => fGl K "_law_heading" 839) rfl
  exact T.gl c
theorem g_Lnogoods (T : Txt K mg) : mg "_law_no_goods" = some (.ref 846) := by
  have c := T.at 66 (f := fun K => fGl K "_law_no_goods" 846) rfl
  exact T.gl c
theorem g_Lstrange (T : Txt K mg) : mg "_law_strange" = some (.ref 853) := by
  have c := T.at 67 (f := fun K => fGl K "_law_strange" 853) rfl
  exact T.gl c
theorem g_Lweighed (T : Txt K mg) : mg "_law_weighed" = some (.ref 858) := by
  have c := T.at 68 (f := fun K => fGl K "_law_weighed" 858) rfl
  exact T.gl c
theorem g_Lthrough (T : Txt K mg) : mg "_law_through" = some (.ref 865) := by
  have c := T.at 69 (f := fun K => fGl K "_law_through" 865) rfl
  exact T.gl c
theorem g_law (T : Txt K mg) : mg "law" = some (.ref 872) := by
  have c := T.at 70 (f := fun K => fGl K "law" 872) rfl
  exact T.gl c
theorem z_len (T : Txt K mg) : mg "len" = none := by
  have c := T.at 71 (f := fun K => fFr K "len") rfl
  exact T.fr c
theorem z_range (T : Txt K mg) : mg "range" = none := by
  have c := T.at 72 (f := fun K => fFr K "range") rfl
  exact T.fr c
theorem z_isinstance (T : Txt K mg) : mg "isinstance" = none := by
  have c := T.at 73 (f := fun K => fFr K "isinstance") rfl
  exact T.fr c
theorem z_int (T : Txt K mg) : mg "int" = none := by
  have c := T.at 74 (f := fun K => fFr K "int") rfl
  exact T.fr c
theorem z_bool (T : Txt K mg) : mg "bool" = none := by
  have c := T.at 75 (f := fun K => fFr K "bool") rfl
  exact T.fr c
theorem z_str (T : Txt K mg) : mg "str" = none := by
  have c := T.at 76 (f := fun K => fFr K "str") rfl
  exact T.fr c
theorem z_tuple (T : Txt K mg) : mg "tuple" = none := by
  have c := T.at 77 (f := fun K => fFr K "tuple") rfl
  exact T.fr c
theorem z_list (T : Txt K mg) : mg "list" = none := by
  have c := T.at 78 (f := fun K => fFr K "list") rfl
  exact T.fr c
theorem z_sorted (T : Txt K mg) : mg "sorted" = none := by
  have c := T.at 79 (f := fun K => fFr K "sorted") rfl
  exact T.fr c
theorem z_set (T : Txt K mg) : mg "set" = none := by
  have c := T.at 80 (f := fun K => fFr K "set") rfl
  exact T.fr c
theorem z_max (T : Txt K mg) : mg "max" = none := by
  have c := T.at 81 (f := fun K => fFr K "max") rfl
  exact T.fr c
theorem z_min (T : Txt K mg) : mg "min" = none := by
  have c := T.at 82 (f := fun K => fFr K "min") rfl
  exact T.fr c
theorem z_sum (T : Txt K mg) : mg "sum" = none := by
  have c := T.at 83 (f := fun K => fFr K "sum") rfl
  exact T.fr c
theorem i_SIGNS (T : Txt K mg) : ∃ t, mg "SIGNS" = some (.int 8 t) := by
  have c := T.at 84 (f := fun K => fIn K "SIGNS" 8) rfl
  exact T.iv c
theorem i_PARTS (T : Txt K mg) : ∃ t, mg "PARTS" = some (.int 4 t) := by
  have c := T.at 85 (f := fun K => fIn K "PARTS" 4) rfl
  exact T.iv c
theorem i_MOST (T : Txt K mg) : ∃ t, mg "MOST" = some (.int 99 t) := by
  have c := T.at 86 (f := fun K => fIn K "MOST" 99) rfl
  exact T.iv c
theorem i_KINDS (T : Txt K mg) : ∃ t, mg "KINDS" = some (.int 4 t) := by
  have c := T.at 87 (f := fun K => fIn K "KINDS" 4) rfl
  exact T.iv c
theorem i_ROWSgoods (T : Txt K mg) : ∃ t, mg "ROWS_goods" = some (.int 40 t) := by
  have c := T.at 88 (f := fun K => fIn K "ROWS_goods" 40) rfl
  exact T.iv c
theorem i_TOGETHER (T : Txt K mg) : ∃ t, mg "TOGETHER" = some (.int 1000000000000000 t) := by
  have c := T.at 89 (f := fun K => fIn K "TOGETHER" 1000000000000000) rfl
  exact T.iv c
theorem i_DEEP (T : Txt K mg) : ∃ t, mg "DEEP" = some (.int 5 t) := by
  have c := T.at 90 (f := fun K => fIn K "DEEP" 5) rfl
  exact T.iv c
theorem i_ROWStree (T : Txt K mg) : ∃ t, mg "ROWS_tree" = some (.int 24 t) := by
  have c := T.at 91 (f := fun K => fIn K "ROWS_tree" 24) rfl
  exact T.iv c
theorem x_LETTERS (T : Txt K mg) : ∃ t, mg "LETTERS" = some (.str "abcdefghijklmnopqrstuvwxyz" t) := by
  have c := T.at 92 (f := fun K => fSt K "LETTERS" "abcdefghijklmnopqrstuvwxyz") rfl
  exact T.sv c
theorem x_ONE (T : Txt K mg) : ∃ t, mg "ONE" = some (.str "one" t) := by
  have c := T.at 93 (f := fun K => fSt K "ONE" "one") rfl
  exact T.sv c
theorem x_NEAR (T : Txt K mg) : ∃ t, mg "NEAR" = some (.str "near" t) := by
  have c := T.at 94 (f := fun K => fSt K "NEAR" "near") rfl
  exact T.sv c
theorem c_Anything (T : Txt K mg) : Cls K 290 := by
  have c := T.at 95 (f := fun K => fCls K 290) rfl
  exact cls_f c
theorem k_Anything (T : Txt K mg) : fMk0 K 290 = true := by
  have c := T.at 96 (f := fun K => fMk0 K 290) rfl
  exact c
theorem m_Anything_claims (T : Txt K mg) : Meth K 290 "claims" 280 := by
  have c := T.at 97 (f := fun K => fMe K 290 "claims" 280) rfl
  exact me_f c
theorem c_Made (T : Txt K mg) : Cls K 330 := by
  have c := T.at 98 (f := fun K => fCls K 330) rfl
  exact cls_f c
theorem n_Made_stuff (T : Txt K mg) : NoAttr K 330 "stuff" := by
  have c := T.at 99 (f := fun K => fNo K 330 "stuff") rfl
  exact ok_eqo c
theorem k_Made (T : Txt K mg) : Mk K 330 306 := by
  have c := T.at 100 (f := fun K => fMk K 330 306) rfl
  exact mk_f c
theorem m_Made_claims (T : Txt K mg) : Meth K 330 "claims" 313 := by
  have c := T.at 101 (f := fun K => fMe K 330 "claims" 313) rfl
  exact me_f c
theorem c_Used (T : Txt K mg) : Cls K 370 := by
  have c := T.at 102 (f := fun K => fCls K 370) rfl
  exact cls_f c
theorem n_Used_use (T : Txt K mg) : NoAttr K 370 "use" := by
  have c := T.at 103 (f := fun K => fNo K 370 "use") rfl
  exact ok_eqo c
theorem k_Used (T : Txt K mg) : Mk K 370 346 := by
  have c := T.at 104 (f := fun K => fMk K 370 346) rfl
  exact mk_f c
theorem m_Used_claims (T : Txt K mg) : Meth K 370 "claims" 353 := by
  have c := T.at 105 (f := fun K => fMe K 370 "claims" 353) rfl
  exact me_f c
theorem c_Chief (T : Txt K mg) : Cls K 410 := by
  have c := T.at 106 (f := fun K => fCls K 410) rfl
  exact cls_f c
theorem n_Chief_stuff (T : Txt K mg) : NoAttr K 410 "stuff" := by
  have c := T.at 107 (f := fun K => fNo K 410 "stuff") rfl
  exact ok_eqo c
theorem k_Chief (T : Txt K mg) : Mk K 410 386 := by
  have c := T.at 108 (f := fun K => fMk K 410 386) rfl
  exact mk_f c
theorem m_Chief_claims (T : Txt K mg) : Meth K 410 "claims" 393 := by
  have c := T.at 109 (f := fun K => fMe K 410 "claims" 393) rfl
  exact me_f c
theorem c_Over (T : Txt K mg) : Cls K 443 := by
  have c := T.at 110 (f := fun K => fCls K 443) rfl
  exact cls_f c
theorem n_Over_one (T : Txt K mg) : NoAttr K 443 "one" := by
  have c := T.at 111 (f := fun K => fNo K 443 "one") rfl
  exact ok_eqo c
theorem n_Over_other (T : Txt K mg) : NoAttr K 443 "other" := by
  have c := T.at 112 (f := fun K => fNo K 443 "other") rfl
  exact ok_eqo c
theorem k_Over (T : Txt K mg) : Mk K 443 426 := by
  have c := T.at 113 (f := fun K => fMk K 443 426) rfl
  exact mk_f c
theorem m_Over_claims (T : Txt K mg) : Meth K 443 "claims" 433 := by
  have c := T.at 114 (f := fun K => fMe K 443 "claims" 433) rfl
  exact me_f c
theorem c_Both (T : Txt K mg) : Cls K 483 := by
  have c := T.at 115 (f := fun K => fCls K 483) rfl
  exact cls_f c
theorem n_Both_one (T : Txt K mg) : NoAttr K 483 "one" := by
  have c := T.at 116 (f := fun K => fNo K 483 "one") rfl
  exact ok_eqo c
theorem n_Both_other (T : Txt K mg) : NoAttr K 483 "other" := by
  have c := T.at 117 (f := fun K => fNo K 483 "other") rfl
  exact ok_eqo c
theorem k_Both (T : Txt K mg) : Mk K 483 459 := by
  have c := T.at 118 (f := fun K => fMk K 483 459) rfl
  exact mk_f c
theorem m_Both_claims (T : Txt K mg) : Meth K 483 "claims" 466 := by
  have c := T.at 119 (f := fun K => fMe K 483 "claims" 466) rfl
  exact me_f c
theorem c_Either (T : Txt K mg) : Cls K 523 := by
  have c := T.at 120 (f := fun K => fCls K 523) rfl
  exact cls_f c
theorem n_Either_one (T : Txt K mg) : NoAttr K 523 "one" := by
  have c := T.at 121 (f := fun K => fNo K 523 "one") rfl
  exact ok_eqo c
theorem n_Either_other (T : Txt K mg) : NoAttr K 523 "other" := by
  have c := T.at 122 (f := fun K => fNo K 523 "other") rfl
  exact ok_eqo c
theorem k_Either (T : Txt K mg) : Mk K 523 499 := by
  have c := T.at 123 (f := fun K => fMk K 523 499) rfl
  exact mk_f c
theorem m_Either_claims (T : Txt K mg) : Meth K 523 "claims" 506 := by
  have c := T.at 124 (f := fun K => fMe K 523 "claims" 506) rfl
  exact me_f c
theorem c_But (T : Txt K mg) : Cls K 563 := by
  have c := T.at 125 (f := fun K => fCls K 563) rfl
  exact cls_f c
theorem n_But_one (T : Txt K mg) : NoAttr K 563 "one" := by
  have c := T.at 126 (f := fun K => fNo K 563 "one") rfl
  exact ok_eqo c
theorem n_But_other (T : Txt K mg) : NoAttr K 563 "other" := by
  have c := T.at 127 (f := fun K => fNo K 563 "other") rfl
  exact ok_eqo c
theorem k_But (T : Txt K mg) : Mk K 563 539 := by
  have c := T.at 128 (f := fun K => fMk K 563 539) rfl
  exact mk_f c
theorem m_But_claims (T : Txt K mg) : Meth K 563 "claims" 546 := by
  have c := T.at 129 (f := fun K => fMe K 563 "claims" 546) rfl
  exact me_f c
theorem c_Tree (T : Txt K mg) : Cls K 662 := by
  have c := T.at 130 (f := fun K => fCls K 662) rfl
  exact cls_f c
theorem n_Tree_order (T : Txt K mg) : NoAttr K 662 "order" := by
  have c := T.at 131 (f := fun K => fNo K 662 "order") rfl
  exact ok_eqo c
theorem n_Tree_rules (T : Txt K mg) : NoAttr K 662 "rules" := by
  have c := T.at 132 (f := fun K => fNo K 662 "rules") rfl
  exact ok_eqo c
theorem n_Tree_noted (T : Txt K mg) : NoAttr K 662 "noted" := by
  have c := T.at 133 (f := fun K => fNo K 662 "noted") rfl
  exact ok_eqo c
theorem n_Tree_counted (T : Txt K mg) : NoAttr K 662 "counted" := by
  have c := T.at 134 (f := fun K => fNo K 662 "counted") rfl
  exact ok_eqo c
theorem k_Tree (T : Txt K mg) : Mk K 662 619 := by
  have c := T.at 135 (f := fun K => fMk K 662 619) rfl
  exact mk_f c
theorem m_Tree_kinds (T : Txt K mg) : Meth K 662 "kinds" 626 := by
  have c := T.at 136 (f := fun K => fMe K 662 "kinds" 626) rfl
  exact me_f c
theorem m_Tree_below (T : Txt K mg) : Meth K 662 "below" 631 := by
  have c := T.at 137 (f := fun K => fMe K 662 "below" 631) rfl
  exact me_f c
theorem m_Tree_ruleat (T : Txt K mg) : Meth K 662 "rule_at" 645 := by
  have c := T.at 138 (f := fun K => fMe K 662 "rule_at" 645) rfl
  exact me_f c
theorem m_Tree_claims (T : Txt K mg) : Meth K 662 "claims" 652 := by
  have c := T.at 139 (f := fun K => fMe K 662 "claims" 652) rfl
  exact me_f c
theorem m_Tree_looked (T : Txt K mg) : Meth K 662 "looked" 659 := by
  have c := T.at 140 (f := fun K => fMe K 662 "looked" 659) rfl
  exact me_f c
theorem e_NoKinds (T : Txt K mg) : PySem.W.excIn K 44 veB "ValueError.__new__" = true := by
  have c := T.at 141 (f := fun K => fExc K 44) rfl
  exact (b2 (b2 c).1).1
theorem ek_NoKinds (T : Txt K mg) : PySem.W.keepIn K (.ref 44) = true := by
  have c := T.at 141 (f := fun K => fExc K 44) rfl
  exact (b2 (b2 c).1).2
theorem es_NoKinds (T : Txt K mg) : PySem.W.subIn K (.ref 44) (.type "BaseException") = some true := by
  have c := T.at 141 (f := fun K => fExc K 44) rfl
  exact of_decide_eq_true (b2 (b2 c).2).1
theorem et_NoKinds (T : Txt K mg) : PySem.W.typeIn K (.ref 44) = some (.type "type") := by
  have c := T.at 141 (f := fun K => fExc K 44) rfl
  exact of_decide_eq_true (b2 (b2 c).2).2
theorem e_NoGoods (T : Txt K mg) : PySem.W.excIn K 56 veB "ValueError.__new__" = true := by
  have c := T.at 142 (f := fun K => fExc K 56) rfl
  exact (b2 (b2 c).1).1
theorem ek_NoGoods (T : Txt K mg) : PySem.W.keepIn K (.ref 56) = true := by
  have c := T.at 142 (f := fun K => fExc K 56) rfl
  exact (b2 (b2 c).1).2
theorem es_NoGoods (T : Txt K mg) : PySem.W.subIn K (.ref 56) (.type "BaseException") = some true := by
  have c := T.at 142 (f := fun K => fExc K 56) rfl
  exact of_decide_eq_true (b2 (b2 c).2).1
theorem et_NoGoods (T : Txt K mg) : PySem.W.typeIn K (.ref 56) = some (.type "type") := by
  have c := T.at 142 (f := fun K => fExc K 56) rfl
  exact of_decide_eq_true (b2 (b2 c).2).2
theorem e_NoNote (T : Txt K mg) : PySem.W.excIn K 68 veB "ValueError.__new__" = true := by
  have c := T.at 143 (f := fun K => fExc K 68) rfl
  exact (b2 (b2 c).1).1
theorem ek_NoNote (T : Txt K mg) : PySem.W.keepIn K (.ref 68) = true := by
  have c := T.at 143 (f := fun K => fExc K 68) rfl
  exact (b2 (b2 c).1).2
theorem es_NoNote (T : Txt K mg) : PySem.W.subIn K (.ref 68) (.type "BaseException") = some true := by
  have c := T.at 143 (f := fun K => fExc K 68) rfl
  exact of_decide_eq_true (b2 (b2 c).2).1
theorem et_NoNote (T : Txt K mg) : PySem.W.typeIn K (.ref 68) = some (.type "type") := by
  have c := T.at 143 (f := fun K => fExc K 68) rfl
  exact of_decide_eq_true (b2 (b2 c).2).2
theorem e_NoTree (T : Txt K mg) : PySem.W.excIn K 80 veB "ValueError.__new__" = true := by
  have c := T.at 144 (f := fun K => fExc K 80) rfl
  exact (b2 (b2 c).1).1
theorem ek_NoTree (T : Txt K mg) : PySem.W.keepIn K (.ref 80) = true := by
  have c := T.at 144 (f := fun K => fExc K 80) rfl
  exact (b2 (b2 c).1).2
theorem es_NoTree (T : Txt K mg) : PySem.W.subIn K (.ref 80) (.type "BaseException") = some true := by
  have c := T.at 144 (f := fun K => fExc K 80) rfl
  exact of_decide_eq_true (b2 (b2 c).2).1
theorem et_NoTree (T : Txt K mg) : PySem.W.typeIn K (.ref 80) = some (.type "type") := by
  have c := T.at 144 (f := fun K => fExc K 80) rfl
  exact of_decide_eq_true (b2 (b2 c).2).2
theorem q_NoGoods_NoneClaims (T : Txt K mg) : PySem.W.exmOne K (.ref 56) (.ref 99) = some false := by
  have c := T.at 145 (f := fun K => decide (PySem.W.exmOne K (.ref 56) (.ref 99) = some false)) rfl
  exact of_decide_eq_true c
theorem q_NoGoods_TwoClaim (T : Txt K mg) : PySem.W.exmOne K (.ref 56) (.ref 118) = some false := by
  have c := T.at 146 (f := fun K => decide (PySem.W.exmOne K (.ref 56) (.ref 118) = some false)) rfl
  exact of_decide_eq_true c
theorem q_NoGoods_TariffError (T : Txt K mg) : PySem.W.exmOne K (.ref 56) (.ref 31) = some true := by
  have c := T.at 147 (f := fun K => decide (PySem.W.exmOne K (.ref 56) (.ref 31) = some true)) rfl
  exact of_decide_eq_true c
theorem q_NoGoods_NoGoods (T : Txt K mg) : PySem.W.exmOne K (.ref 56) (.ref 56) = some true := by
  have c := T.at 148 (f := fun K => decide (PySem.W.exmOne K (.ref 56) (.ref 56) = some true)) rfl
  exact of_decide_eq_true c
theorem q_NoneClaims_NoneClaims (T : Txt K mg) : PySem.W.exmOne K (.ref 99) (.ref 99) = some true := by
  have c := T.at 149 (f := fun K => decide (PySem.W.exmOne K (.ref 99) (.ref 99) = some true)) rfl
  exact of_decide_eq_true c
theorem q_NoneClaims_TwoClaim (T : Txt K mg) : PySem.W.exmOne K (.ref 99) (.ref 118) = some false := by
  have c := T.at 150 (f := fun K => decide (PySem.W.exmOne K (.ref 99) (.ref 118) = some false)) rfl
  exact of_decide_eq_true c
theorem q_NoneClaims_TariffError (T : Txt K mg) : PySem.W.exmOne K (.ref 99) (.ref 31) = some true := by
  have c := T.at 151 (f := fun K => decide (PySem.W.exmOne K (.ref 99) (.ref 31) = some true)) rfl
  exact of_decide_eq_true c
theorem q_NoneClaims_NoGoods (T : Txt K mg) : PySem.W.exmOne K (.ref 99) (.ref 56) = some false := by
  have c := T.at 152 (f := fun K => decide (PySem.W.exmOne K (.ref 99) (.ref 56) = some false)) rfl
  exact of_decide_eq_true c
theorem q_TwoClaim_NoneClaims (T : Txt K mg) : PySem.W.exmOne K (.ref 118) (.ref 99) = some false := by
  have c := T.at 153 (f := fun K => decide (PySem.W.exmOne K (.ref 118) (.ref 99) = some false)) rfl
  exact of_decide_eq_true c
theorem q_TwoClaim_TwoClaim (T : Txt K mg) : PySem.W.exmOne K (.ref 118) (.ref 118) = some true := by
  have c := T.at 154 (f := fun K => decide (PySem.W.exmOne K (.ref 118) (.ref 118) = some true)) rfl
  exact of_decide_eq_true c
theorem q_TwoClaim_TariffError (T : Txt K mg) : PySem.W.exmOne K (.ref 118) (.ref 31) = some true := by
  have c := T.at 155 (f := fun K => decide (PySem.W.exmOne K (.ref 118) (.ref 31) = some true)) rfl
  exact of_decide_eq_true c
theorem q_TwoClaim_NoGoods (T : Txt K mg) : PySem.W.exmOne K (.ref 118) (.ref 56) = some false := by
  have c := T.at 156 (f := fun K => decide (PySem.W.exmOne K (.ref 118) (.ref 56) = some false)) rfl
  exact of_decide_eq_true c
theorem o_NoneClaims (T : Txt K mg) : fOex K 99 96 = true := by
  have c := T.at 157 (f := fun K => fOex K 99 96) rfl
  exact c
theorem n_NoneClaims_parcel (T : Txt K mg) : NoAttr K 99 "parcel" := by
  have c := T.at 158 (f := fun K => fNo K 99 "parcel") rfl
  exact ok_eqo c
theorem n_NoneClaims_at (T : Txt K mg) : NoAttr K 99 "at" := by
  have c := T.at 159 (f := fun K => fNo K 99 "at") rfl
  exact ok_eqo c
theorem o_TwoClaim (T : Txt K mg) : fOex K 118 115 = true := by
  have c := T.at 160 (f := fun K => fOex K 118 115) rfl
  exact c
theorem n_TwoClaim_parcel (T : Txt K mg) : NoAttr K 118 "parcel" := by
  have c := T.at 161 (f := fun K => fNo K 118 "parcel") rfl
  exact ok_eqo c
theorem n_TwoClaim_at (T : Txt K mg) : NoAttr K 118 "at" := by
  have c := T.at 162 (f := fun K => fNo K 118 "at") rfl
  exact ok_eqo c
theorem n_TwoClaim_one (T : Txt K mg) : NoAttr K 118 "one" := by
  have c := T.at 163 (f := fun K => fNo K 118 "one") rfl
  exact ok_eqo c
theorem n_TwoClaim_other (T : Txt K mg) : NoAttr K 118 "other" := by
  have c := T.at 164 (f := fun K => fNo K 118 "other") rfl
  exact ok_eqo c
theorem o_TariffError (T : Txt K mg) : fTar K 31 = true := by
  have c := T.at 165 (f := fun K => fTar K 31) rfl
  exact c
theorem l_NoGoods (T : Txt K mg) : fIsE K 56 = true := by
  have c := T.at 166 (f := fun K => fIsE K 56) rfl
  exact c
theorem f_NoneClaimsinit (T : Txt K mg) : Fun K "__init__" "NoneClaims.__init__" s_NoneClaimsinit 96 (fdOf K 96) := T.df 0 (d := d_NoneClaimsinit) rfl
theorem b_NoneClaimsinit (T : Txt K mg) : Binds K (fdOf K 96) ["self", "parcel", "at"] [] := (f_NoneClaimsinit T).binds (ps := ["self", "parcel", "at"]) fun _ _ _ _ _ _ us hl => match us, hl with | [_, _, _], _ => rfl
theorem f_TwoClaiminit (T : Txt K mg) : Fun K "__init__" "TwoClaim.__init__" s_TwoClaiminit 115 (fdOf K 115) := T.df 1 (d := d_TwoClaiminit) rfl
theorem b_TwoClaiminit (T : Txt K mg) : Binds K (fdOf K 115) ["self", "parcel", "at", "one", "other"] [] := (f_TwoClaiminit T).binds (ps := ["self", "parcel", "at", "one", "other"]) fun _ _ _ _ _ _ us hl => match us, hl with | [_, _, _, _, _], _ => rfl
theorem f_iswhole (T : Txt K mg) : Fun K "is_whole" "is_whole" s_iswhole 127 (fdOf K 127) := T.df 2 (d := d_iswhole) rfl
theorem b_iswhole (T : Txt K mg) : Binds K (fdOf K 127) ["thing"] [] := (f_iswhole T).binds (ps := ["thing"]) fun _ _ _ _ _ _ us hl => match us, hl with | [_], _ => rfl
theorem f_isname (T : Txt K mg) : Fun K "is_name" "is_name" s_isname 134 (fdOf K 134) := T.df 3 (d := d_isname) rfl
theorem b_isname (T : Txt K mg) : Binds K (fdOf K 134) ["thing"] [] := (f_isname T).binds (ps := ["thing"]) fun _ _ _ _ _ _ us hl => match us, hl with | [_], _ => rfl
theorem f_isprefix (T : Txt K mg) : Fun K "is_prefix" "is_prefix" s_isprefix 141 (fdOf K 141) := T.df 4 (d := d_isprefix) rfl
theorem b_isprefix (T : Txt K mg) : Binds K (fdOf K 141) ["thing"] [] := (f_isprefix T).binds (ps := ["thing"]) fun _ _ _ _ _ _ us hl => match us, hl with | [_], _ => rfl
theorem f_isnumber (T : Txt K mg) : Fun K "is_number" "is_number" s_isnumber 148 (fdOf K 148) := T.df 5 (d := d_isnumber) rfl
theorem b_isnumber (T : Txt K mg) : Binds K (fdOf K 148) ["thing"] [] := (f_isnumber T).binds (ps := ["thing"]) fun _ _ _ _ _ _ us hl => match us, hl with | [_], _ => rfl
theorem f_iskind (T : Txt K mg) : Fun K "is_kind" "is_kind" s_iskind 155 (fdOf K 155) := T.df 6 (d := d_iskind) rfl
theorem b_iskind (T : Txt K mg) : Binds K (fdOf K 155) ["thing"] [] := (f_iskind T).binds (ps := ["thing"]) fun _ _ _ _ _ _ us hl => match us, hl with | [_], _ => rfl
theorem f_kindsof (T : Txt K mg) : Fun K "kinds_of" "kinds_of" s_kindsof 162 (fdOf K 162) := T.df 7 (d := d_kindsof) rfl
theorem b_kindsof (T : Txt K mg) : Binds K (fdOf K 162) ["some"] [] := (f_kindsof T).binds (ps := ["some"]) fun _ _ _ _ _ _ us hl => match us, hl with | [_], _ => rfl
theorem f_placeof (T : Txt K mg) : Fun K "place_of" "place_of" s_placeof 169 (fdOf K 169) := T.df 8 (d := d_placeof) rfl
theorem b_placeof (T : Txt K mg) : Binds K (fdOf K 169) ["kinds", "part"] [] := (f_placeof T).binds (ps := ["kinds", "part"]) fun _ _ _ _ _ _ us hl => match us, hl with | [_, _], _ => rfl
theorem f_folded (T : Txt K mg) : Fun K "folded" "folded" s_folded 174 (fdOf K 174) := T.df 9 (d := d_folded) rfl
theorem b_folded (T : Txt K mg) : Binds K (fdOf K 174) ["kinds", "parts"] [] := (f_folded T).binds (ps := ["kinds", "parts"]) fun _ _ _ _ _ _ us hl => match us, hl with | [_, _], _ => rfl
theorem f_partsof (T : Txt K mg) : Fun K "parts_of" "parts_of" s_partsof 181 (fdOf K 181) := T.df 10 (d := d_partsof) rfl
theorem b_partsof (T : Txt K mg) : Binds K (fdOf K 181) ["kinds", "weights"] [] := (f_partsof T).binds (ps := ["kinds", "weights"]) fun _ _ _ _ _ _ us hl => match us, hl with | [_, _], _ => rfl
theorem f_lookof (T : Txt K mg) : Fun K "look_of" "look_of" s_lookof 186 (fdOf K 186) := T.df 11 (d := d_lookof) rfl
theorem b_lookof (T : Txt K mg) : Binds K (fdOf K 186) ["weights"] [] := (f_lookof T).binds (ps := ["weights"]) fun _ _ _ _ _ _ us hl => match us, hl with | [_], _ => rfl
theorem f_keyof (T : Txt K mg) : Fun K "key_of" "key_of" s_keyof 191 (fdOf K 191) := T.df 12 (d := d_keyof) rfl
theorem b_keyof (T : Txt K mg) : Binds K (fdOf K 191) ["weights"] [] := (f_keyof T).binds (ps := ["weights"]) fun _ _ _ _ _ _ us hl => match us, hl with | [_], _ => rfl
theorem f_allrows (T : Txt K mg) : Fun K "all_rows" "all_rows" s_allrows 198 (fdOf K 198) := T.df 13 (d := d_allrows) rfl
theorem b_allrows (T : Txt K mg) : Binds K (fdOf K 198) ["many"] [] := (f_allrows T).binds (ps := ["many"]) fun _ _ _ _ _ _ us hl => match us, hl with | [_], _ => rfl
theorem f_alllooks (T : Txt K mg) : Fun K "all_looks" "all_looks" s_alllooks 203 (fdOf K 203) := T.df 14 (d := d_alllooks) rfl
theorem b_alllooks (T : Txt K mg) : Binds K (fdOf K 203) ["many"] [] := (f_alllooks T).binds (ps := ["many"]) fun _ _ _ _ _ _ us hl => match us, hl with | [_], _ => rfl
theorem f_chiefof (T : Txt K mg) : Fun K "chief_of" "chief_of" s_chiefof 210 (fdOf K 210) := T.df 15 (d := d_chiefof) rfl
theorem b_chiefof (T : Txt K mg) : Binds K (fdOf K 210) ["look"] [] := (f_chiefof T).binds (ps := ["look"]) fun _ _ _ _ _ _ us hl => match us, hl with | [_], _ => rfl
theorem f_aloneof (T : Txt K mg) : Fun K "alone_of" "alone_of" s_aloneof 217 (fdOf K 217) := T.df 16 (d := d_aloneof) rfl
theorem b_aloneof (T : Txt K mg) : Binds K (fdOf K 217) ["look"] [] := (f_aloneof T).binds (ps := ["look"]) fun _ _ _ _ _ _ us hl => match us, hl with | [_], _ => rfl
theorem f_firstat (T : Txt K mg) : Fun K "first_at" "first_at" s_firstat 224 (fdOf K 224) := T.df 17 (d := d_firstat) rfl
theorem b_firstat (T : Txt K mg) : Binds K (fdOf K 224) ["kinds", "look", "side", "name", "least"] [] := (f_firstat T).binds (ps := ["kinds", "look", "side", "name", "least"]) fun _ _ _ _ _ _ us hl => match us, hl with | [_, _, _, _, _], _ => rfl
theorem f_rankof (T : Txt K mg) : Fun K "rank_of" "rank_of" s_rankof 231 (fdOf K 231) := T.df 18 (d := d_rankof) rfl
theorem b_rankof (T : Txt K mg) : Binds K (fdOf K 231) ["kinds", "look", "kind"] [] := (f_rankof T).binds (ps := ["kinds", "look", "kind"]) fun _ _ _ _ _ _ us hl => match us, hl with | [_, _, _], _ => rfl
theorem f_Anythingclaims (T : Txt K mg) : Fun K "claims" "Anything.claims" s_Anythingclaims 280 (fdOf K 280) := T.df 19 (d := d_Anythingclaims) rfl
theorem b_Anythingclaims (T : Txt K mg) : Binds K (fdOf K 280) ["self", "kinds", "look"] [] := (f_Anythingclaims T).binds (ps := ["self", "kinds", "look"]) fun _ _ _ _ _ _ us hl => match us, hl with | [_, _, _], _ => rfl
theorem f_Madeinit (T : Txt K mg) : Fun K "__init__" "Made.__init__" s_Madeinit 306 (fdOf K 306) := T.df 20 (d := d_Madeinit) rfl
theorem b_Madeinit (T : Txt K mg) : Binds K (fdOf K 306) ["self", "stuff"] [] := (f_Madeinit T).binds (ps := ["self", "stuff"]) fun _ _ _ _ _ _ us hl => match us, hl with | [_, _], _ => rfl
theorem f_Madeclaims (T : Txt K mg) : Fun K "claims" "Made.claims" s_Madeclaims 313 (fdOf K 313) := T.df 21 (d := d_Madeclaims) rfl
theorem b_Madeclaims (T : Txt K mg) : Binds K (fdOf K 313) ["self", "kinds", "look"] [] := (f_Madeclaims T).binds (ps := ["self", "kinds", "look"]) fun _ _ _ _ _ _ us hl => match us, hl with | [_, _, _], _ => rfl
theorem f_Usedinit (T : Txt K mg) : Fun K "__init__" "Used.__init__" s_Usedinit 346 (fdOf K 346) := T.df 22 (d := d_Usedinit) rfl
theorem b_Usedinit (T : Txt K mg) : Binds K (fdOf K 346) ["self", "use"] [] := (f_Usedinit T).binds (ps := ["self", "use"]) fun _ _ _ _ _ _ us hl => match us, hl with | [_, _], _ => rfl
theorem f_Usedclaims (T : Txt K mg) : Fun K "claims" "Used.claims" s_Usedclaims 353 (fdOf K 353) := T.df 23 (d := d_Usedclaims) rfl
theorem b_Usedclaims (T : Txt K mg) : Binds K (fdOf K 353) ["self", "kinds", "look"] [] := (f_Usedclaims T).binds (ps := ["self", "kinds", "look"]) fun _ _ _ _ _ _ us hl => match us, hl with | [_, _, _], _ => rfl
theorem f_Chiefinit (T : Txt K mg) : Fun K "__init__" "Chief.__init__" s_Chiefinit 386 (fdOf K 386) := T.df 24 (d := d_Chiefinit) rfl
theorem b_Chiefinit (T : Txt K mg) : Binds K (fdOf K 386) ["self", "stuff"] [] := (f_Chiefinit T).binds (ps := ["self", "stuff"]) fun _ _ _ _ _ _ us hl => match us, hl with | [_, _], _ => rfl
theorem f_Chiefclaims (T : Txt K mg) : Fun K "claims" "Chief.claims" s_Chiefclaims 393 (fdOf K 393) := T.df 25 (d := d_Chiefclaims) rfl
theorem b_Chiefclaims (T : Txt K mg) : Binds K (fdOf K 393) ["self", "kinds", "look"] [] := (f_Chiefclaims T).binds (ps := ["self", "kinds", "look"]) fun _ _ _ _ _ _ us hl => match us, hl with | [_, _, _], _ => rfl
theorem f_Overinit (T : Txt K mg) : Fun K "__init__" "Over.__init__" s_Overinit 426 (fdOf K 426) := T.df 26 (d := d_Overinit) rfl
theorem b_Overinit (T : Txt K mg) : Binds K (fdOf K 426) ["self", "one", "other"] [] := (f_Overinit T).binds (ps := ["self", "one", "other"]) fun _ _ _ _ _ _ us hl => match us, hl with | [_, _, _], _ => rfl
theorem f_Overclaims (T : Txt K mg) : Fun K "claims" "Over.claims" s_Overclaims 433 (fdOf K 433) := T.df 27 (d := d_Overclaims) rfl
theorem b_Overclaims (T : Txt K mg) : Binds K (fdOf K 433) ["self", "kinds", "look"] [] := (f_Overclaims T).binds (ps := ["self", "kinds", "look"]) fun _ _ _ _ _ _ us hl => match us, hl with | [_, _, _], _ => rfl
theorem f_Bothinit (T : Txt K mg) : Fun K "__init__" "Both.__init__" s_Bothinit 459 (fdOf K 459) := T.df 28 (d := d_Bothinit) rfl
theorem b_Bothinit (T : Txt K mg) : Binds K (fdOf K 459) ["self", "one", "other"] [] := (f_Bothinit T).binds (ps := ["self", "one", "other"]) fun _ _ _ _ _ _ us hl => match us, hl with | [_, _, _], _ => rfl
theorem f_Bothclaims (T : Txt K mg) : Fun K "claims" "Both.claims" s_Bothclaims 466 (fdOf K 466) := T.df 29 (d := d_Bothclaims) rfl
theorem b_Bothclaims (T : Txt K mg) : Binds K (fdOf K 466) ["self", "kinds", "look"] [] := (f_Bothclaims T).binds (ps := ["self", "kinds", "look"]) fun _ _ _ _ _ _ us hl => match us, hl with | [_, _, _], _ => rfl
theorem f_Eitherinit (T : Txt K mg) : Fun K "__init__" "Either.__init__" s_Eitherinit 499 (fdOf K 499) := T.df 30 (d := d_Eitherinit) rfl
theorem b_Eitherinit (T : Txt K mg) : Binds K (fdOf K 499) ["self", "one", "other"] [] := (f_Eitherinit T).binds (ps := ["self", "one", "other"]) fun _ _ _ _ _ _ us hl => match us, hl with | [_, _, _], _ => rfl
theorem f_Eitherclaims (T : Txt K mg) : Fun K "claims" "Either.claims" s_Eitherclaims 506 (fdOf K 506) := T.df 31 (d := d_Eitherclaims) rfl
theorem b_Eitherclaims (T : Txt K mg) : Binds K (fdOf K 506) ["self", "kinds", "look"] [] := (f_Eitherclaims T).binds (ps := ["self", "kinds", "look"]) fun _ _ _ _ _ _ us hl => match us, hl with | [_, _, _], _ => rfl
theorem f_Butinit (T : Txt K mg) : Fun K "__init__" "But.__init__" s_Butinit 539 (fdOf K 539) := T.df 32 (d := d_Butinit) rfl
theorem b_Butinit (T : Txt K mg) : Binds K (fdOf K 539) ["self", "one", "other"] [] := (f_Butinit T).binds (ps := ["self", "one", "other"]) fun _ _ _ _ _ _ us hl => match us, hl with | [_, _, _], _ => rfl
theorem f_Butclaims (T : Txt K mg) : Fun K "claims" "But.claims" s_Butclaims 546 (fdOf K 546) := T.df 33 (d := d_Butclaims) rfl
theorem b_Butclaims (T : Txt K mg) : Binds K (fdOf K 546) ["self", "kinds", "look"] [] := (f_Butclaims T).binds (ps := ["self", "kinds", "look"]) fun _ _ _ _ _ _ us hl => match us, hl with | [_, _, _], _ => rfl
theorem f_ispair (T : Txt K mg) : Fun K "is_pair" "is_pair" s_ispair 572 (fdOf K 572) := T.df 34 (d := d_ispair) rfl
theorem b_ispair (T : Txt K mg) : Binds K (fdOf K 572) ["thing"] [] := (f_ispair T).binds (ps := ["thing"]) fun _ _ _ _ _ _ us hl => match us, hl with | [_], _ => rfl
theorem f_plainof (T : Txt K mg) : Fun K "plain_of" "plain_of" s_plainof 579 (fdOf K 579) := T.df 35 (d := d_plainof) rfl
theorem b_plainof (T : Txt K mg) : Binds K (fdOf K 579) ["told"] [] := (f_plainof T).binds (ps := ["told"]) fun _ _ _ _ _ _ us hl => match us, hl with | [_], _ => rfl
theorem f_madeat (T : Txt K mg) : Fun K "made_at" "made_at" s_madeat 586 (fdOf K 586) := T.df 36 (d := d_madeat) rfl
theorem b_madeat (T : Txt K mg) : Binds K (fdOf K 586) ["told", "deep"] [] := (f_madeat T).binds (ps := ["told", "deep"]) fun _ _ _ _ _ _ us hl => match us, hl with | [_, _], _ => rfl
theorem f_noteof (T : Txt K mg) : Fun K "note_of" "note_of" s_noteof 593 (fdOf K 593) := T.df 37 (d := d_noteof) rfl
theorem b_noteof (T : Txt K mg) : Binds K (fdOf K 593) ["told"] [] := (f_noteof T).binds (ps := ["told"]) fun _ _ _ _ _ _ us hl => match us, hl with | [_], _ => rfl
theorem f_isrow (T : Txt K mg) : Fun K "is_row" "is_row" s_isrow 600 (fdOf K 600) := T.df 38 (d := d_isrow) rfl
theorem b_isrow (T : Txt K mg) : Binds K (fdOf K 600) ["row"] [] := (f_isrow T).binds (ps := ["row"]) fun _ _ _ _ _ _ us hl => match us, hl with | [_], _ => rfl
theorem f_rowsbynumber (T : Txt K mg) : Fun K "rows_by_number" "rows_by_number" s_rowsbynumber 607 (fdOf K 607) := T.df 39 (d := d_rowsbynumber) rfl
theorem b_rowsbynumber (T : Txt K mg) : Binds K (fdOf K 607) ["rule", "rows"] [] := (f_rowsbynumber T).binds (ps := ["rule", "rows"]) fun _ _ _ _ _ _ us hl => match us, hl with | [_, _], _ => rfl
theorem f_Treeinit (T : Txt K mg) : Fun K "__init__" "Tree.__init__" s_Treeinit 619 (fdOf K 619) := T.df 40 (d := d_Treeinit) rfl
theorem b_Treeinit (T : Txt K mg) : Binds K (fdOf K 619) ["self", "kinds", "rule", "rows"] [] := (f_Treeinit T).binds (ps := ["self", "kinds", "rule", "rows"]) fun _ _ _ _ _ _ us hl => match us, hl with | [_, _, _, _], _ => rfl
theorem f_Treekinds (T : Txt K mg) : Fun K "kinds" "Tree.kinds" s_Treekinds 626 (fdOf K 626) := T.df 41 (d := d_Treekinds) rfl
theorem b_Treekinds (T : Txt K mg) : Binds K (fdOf K 626) ["self"] [] := (f_Treekinds T).binds (ps := ["self"]) fun _ _ _ _ _ _ us hl => match us, hl with | [_], _ => rfl
theorem f_Treebelow (T : Txt K mg) : Fun K "below" "Tree.below" s_Treebelow 631 (fdOf K 631) := T.df 42 (d := d_Treebelow) rfl
theorem b_Treebelow (T : Txt K mg) : Binds K (fdOf K 631) ["self", "at"] [] := (f_Treebelow T).binds (ps := ["self", "at"]) fun _ _ _ _ _ _ us hl => match us, hl with | [_, _], _ => rfl
theorem f_Treeruleat (T : Txt K mg) : Fun K "rule_at" "Tree.rule_at" s_Treeruleat 645 (fdOf K 645) := T.df 43 (d := d_Treeruleat) rfl
theorem b_Treeruleat (T : Txt K mg) : Binds K (fdOf K 645) ["self", "at"] [] := (f_Treeruleat T).binds (ps := ["self", "at"]) fun _ _ _ _ _ _ us hl => match us, hl with | [_, _], _ => rfl
theorem f_Treeclaims (T : Txt K mg) : Fun K "claims" "Tree.claims" s_Treeclaims 652 (fdOf K 652) := T.df 44 (d := d_Treeclaims) rfl
theorem b_Treeclaims (T : Txt K mg) : Binds K (fdOf K 652) ["self", "number", "look"] [] := (f_Treeclaims T).binds (ps := ["self", "number", "look"]) fun _ _ _ _ _ _ us hl => match us, hl with | [_, _, _], _ => rfl
theorem f_Treelooked (T : Txt K mg) : Fun K "looked" "Tree.looked" s_Treelooked 659 (fdOf K 659) := T.df 45 (d := d_Treelooked) rfl
theorem b_Treelooked (T : Txt K mg) : Binds K (fdOf K 659) ["self", "number"] [] := (f_Treelooked T).binds (ps := ["self", "number"]) fun _ _ _ _ _ _ us hl => match us, hl with | [_, _], _ => rfl
theorem f_ladderof (T : Txt K mg) : Fun K "ladder_of" "ladder_of" s_ladderof 673 (fdOf K 673) := T.df 46 (d := d_ladderof) rfl
theorem b_ladderof (T : Txt K mg) : Binds K (fdOf K 673) ["tree", "at", "look"] [] := (f_ladderof T).binds (ps := ["tree", "at", "look"]) fun _ _ _ _ _ _ us hl => match us, hl with | [_, _, _], _ => rfl
theorem f_picked (T : Txt K mg) : Fun K "picked" "picked" s_picked 678 (fdOf K 678) := T.df 47 (d := d_picked) rfl
theorem b_picked (T : Txt K mg) : Binds K (fdOf K 678) ["tree", "at", "look"] [] := (f_picked T).binds (ps := ["tree", "at", "look"]) fun _ _ _ _ _ _ us hl => match us, hl with | [_, _, _], _ => rfl
theorem f_wayof (T : Txt K mg) : Fun K "way_of" "way_of" s_wayof 685 (fdOf K 685) := T.df 48 (d := d_wayof) rfl
theorem b_wayof (T : Txt K mg) : Binds K (fdOf K 685) ["tree", "look"] [] := (f_wayof T).binds (ps := ["tree", "look"]) fun _ _ _ _ _ _ us hl => match us, hl with | [_, _], _ => rfl
theorem f_headingof (T : Txt K mg) : Fun K "heading_of" "heading_of" s_headingof 692 (fdOf K 692) := T.df 49 (d := d_headingof) rfl
theorem b_headingof (T : Txt K mg) : Binds K (fdOf K 692) ["tree", "parts"] [] := (f_headingof T).binds (ps := ["tree", "parts"]) fun _ _ _ _ _ _ us hl => match us, hl with | [_, _], _ => rfl
theorem f_auditof (T : Txt K mg) : Fun K "audit_of" "audit_of" s_auditof 699 (fdOf K 699) := T.df 50 (d := d_auditof) rfl
theorem b_auditof (T : Txt K mg) : Binds K (fdOf K 699) ["tree"] [] := (f_auditof T).binds (ps := ["tree"]) fun _ _ _ _ _ _ us hl => match us, hl with | [_], _ => rfl
theorem f_Lcellat (T : Txt K mg) : Fun K "_law_cell_at" "_law_cell_at" s_Lcellat 706 (fdOf K 706) := T.df 51 (d := d_Lcellat) rfl
theorem b_Lcellat (T : Txt K mg) : Binds K (fdOf K 706) ["_law_script", "_law_k"] [] := (f_Lcellat T).binds (ps := ["_law_script", "_law_k"]) fun _ _ _ _ _ _ us hl => match us, hl with | [_, _], _ => rfl
theorem f_Lnames (T : Txt K mg) : Fun K "_law_names" "_law_names" s_Lnames 711 (fdOf K 711) := T.df 52 (d := d_Lnames) rfl
theorem b_Lnames (T : Txt K mg) : Binds K (fdOf K 711) ["_law_cell", "_law_more"] [] := (f_Lnames T).binds (ps := ["_law_cell", "_law_more"]) fun _ _ _ _ _ _ us hl => match us, hl with | [_, _], _ => rfl
theorem f_Lkinds (T : Txt K mg) : Fun K "_law_kinds" "_law_kinds" s_Lkinds 718 (fdOf K 718) := T.df 53 (d := d_Lkinds) rfl
theorem b_Lkinds (T : Txt K mg) : Binds K (fdOf K 718) ["_law_script"] [] := (f_Lkinds T).binds (ps := ["_law_script"]) fun _ _ _ _ _ _ us hl => match us, hl with | [_], _ => rfl
theorem f_Lthere (T : Txt K mg) : Fun K "_law_there" "_law_there" s_Lthere 725 (fdOf K 725) := T.df 54 (d := d_Lthere) rfl
theorem b_Lthere (T : Txt K mg) : Binds K (fdOf K 725) ["_law_kinds_here", "_law_look", "_law_side", "_law_name", "_law_least"] [] := (f_Lthere T).binds (ps := ["_law_kinds_here", "_law_look", "_law_side", "_law_name", "_law_least"]) fun _ _ _ _ _ _ us hl => match us, hl with | [_, _, _, _, _], _ => rfl
theorem f_Lrank (T : Txt K mg) : Fun K "_law_rank" "_law_rank" s_Lrank 732 (fdOf K 732) := T.df 55 (d := d_Lrank) rfl
theorem b_Lrank (T : Txt K mg) : Binds K (fdOf K 732) ["_law_kinds_here", "_law_look", "_law_kind"] [] := (f_Lrank T).binds (ps := ["_law_kinds_here", "_law_look", "_law_kind"]) fun _ _ _ _ _ _ us hl => match us, hl with | [_, _, _], _ => rfl
theorem f_Lclaims (T : Txt K mg) : Fun K "_law_claims" "_law_claims" s_Lclaims 739 (fdOf K 739) := T.df 56 (d := d_Lclaims) rfl
theorem b_Lclaims (T : Txt K mg) : Binds K (fdOf K 739) ["_law_note_here", "_law_kinds_here", "_law_look"] [] := (f_Lclaims T).binds (ps := ["_law_note_here", "_law_kinds_here", "_law_look"]) fun _ _ _ _ _ _ us hl => match us, hl with | [_, _, _], _ => rfl
theorem f_Lplain (T : Txt K mg) : Fun K "_law_plain" "_law_plain" s_Lplain 746 (fdOf K 746) := T.df 57 (d := d_Lplain) rfl
theorem b_Lplain (T : Txt K mg) : Binds K (fdOf K 746) ["_law_cell", "_law_kinds_here"] [] := (f_Lplain T).binds (ps := ["_law_cell", "_law_kinds_here"]) fun _ _ _ _ _ _ us hl => match us, hl with | [_, _], _ => rfl
theorem f_Lnote (T : Txt K mg) : Fun K "_law_note" "_law_note" s_Lnote 753 (fdOf K 753) := T.df 58 (d := d_Lnote) rfl
theorem b_Lnote (T : Txt K mg) : Binds K (fdOf K 753) ["_law_cell", "_law_kinds_here", "_law_deep"] [] := (f_Lnote T).binds (ps := ["_law_cell", "_law_kinds_here", "_law_deep"]) fun _ _ _ _ _ _ us hl => match us, hl with | [_, _, _], _ => rfl
theorem f_Lrows (T : Txt K mg) : Fun K "_law_rows" "_law_rows" s_Lrows 758 (fdOf K 758) := T.df 59 (d := d_Lrows) rfl
theorem b_Lrows (T : Txt K mg) : Binds K (fdOf K 758) ["_law_script", "_law_kinds_here"] [] := (f_Lrows T).binds (ps := ["_law_script", "_law_kinds_here"]) fun _ _ _ _ _ _ us hl => match us, hl with | [_, _], _ => rfl
theorem f_Lturned (T : Txt K mg) : Fun K "_law_turned" "_law_turned" s_Lturned 765 (fdOf K 765) := T.df 60 (d := d_Lturned) rfl
theorem b_Lturned (T : Txt K mg) : Binds K (fdOf K 765) ["_law_rows_here", "_law_cell"] [] := (f_Lturned T).binds (ps := ["_law_rows_here", "_law_cell"]) fun _ _ _ _ _ _ us hl => match us, hl with | [_, _], _ => rfl
theorem f_Lbeneath (T : Txt K mg) : Fun K "_law_beneath" "_law_beneath" s_Lbeneath 770 (fdOf K 770) := T.df 61 (d := d_Lbeneath) rfl
theorem b_Lbeneath (T : Txt K mg) : Binds K (fdOf K 770) ["_law_rows_here", "_law_at"] [] := (f_Lbeneath T).binds (ps := ["_law_rows_here", "_law_at"]) fun _ _ _ _ _ _ us hl => match us, hl with | [_, _], _ => rfl
theorem f_Lrowof (T : Txt K mg) : Fun K "_law_row_of" "_law_row_of" s_Lrowof 777 (fdOf K 777) := T.df 62 (d := d_Lrowof) rfl
theorem b_Lrowof (T : Txt K mg) : Binds K (fdOf K 777) ["_law_rows_here", "_law_number"] [] := (f_Lrowof T).binds (ps := ["_law_rows_here", "_law_number"]) fun _ _ _ _ _ _ us hl => match us, hl with | [_, _], _ => rfl
theorem f_Lmended (T : Txt K mg) : Fun K "_law_mended" "_law_mended" s_Lmended 782 (fdOf K 782) := T.df 63 (d := d_Lmended) rfl
theorem b_Lmended (T : Txt K mg) : Binds K (fdOf K 782) ["_law_rows_here", "_law_way"] [] := (f_Lmended T).binds (ps := ["_law_rows_here", "_law_way"]) fun _ _ _ _ _ _ us hl => match us, hl with | [_, _], _ => rfl
theorem f_Lparts (T : Txt K mg) : Fun K "_law_parts" "_law_parts" s_Lparts 789 (fdOf K 789) := T.df 64 (d := d_Lparts) rfl
theorem b_Lparts (T : Txt K mg) : Binds K (fdOf K 789) ["_law_script", "_law_kinds_here"] [] := (f_Lparts T).binds (ps := ["_law_script", "_law_kinds_here"]) fun _ _ _ _ _ _ us hl => match us, hl with | [_, _], _ => rfl
theorem f_Lotherwise (T : Txt K mg) : Fun K "_law_otherwise" "_law_otherwise" s_Lotherwise 794 (fdOf K 794) := T.df 65 (d := d_Lotherwise) rfl
theorem b_Lotherwise (T : Txt K mg) : Binds K (fdOf K 794) ["_law_parts_here", "_law_cell"] [] := (f_Lotherwise T).binds (ps := ["_law_parts_here", "_law_cell"]) fun _ _ _ _ _ _ us hl => match us, hl with | [_, _], _ => rfl
theorem f_Lcount (T : Txt K mg) : Fun K "_law_count" "_law_count" s_Lcount 801 (fdOf K 801) := T.df 66 (d := d_Lcount) rfl
theorem b_Lcount (T : Txt K mg) : Binds K (fdOf K 801) ["_law_note_here", "_law_kinds_here", "_law_looks"] [] := (f_Lcount T).binds (ps := ["_law_note_here", "_law_kinds_here", "_law_looks"]) fun _ _ _ _ _ _ us hl => match us, hl with | [_, _, _], _ => rfl
theorem f_Lalone (T : Txt K mg) : Fun K "_law_alone" "_law_alone" s_Lalone 806 (fdOf K 806) := T.df 67 (d := d_Lalone) rfl
theorem b_Lalone (T : Txt K mg) : Binds K (fdOf K 806) ["_law_look"] [] := (f_Lalone T).binds (ps := ["_law_look"]) fun _ _ _ _ _ _ us hl => match us, hl with | [_], _ => rfl
theorem f_Lpick (T : Txt K mg) : Fun K "_law_pick" "_law_pick" s_Lpick 811 (fdOf K 811) := T.df 68 (d := d_Lpick) rfl
theorem b_Lpick (T : Txt K mg) : Binds K (fdOf K 811) ["_law_rows_here", "_law_kinds_here", "_law_rule", "_law_counts_here", "_law_at", "_law_look"] [] := (f_Lpick T).binds (ps := ["_law_rows_here", "_law_kinds_here", "_law_rule", "_law_counts_here", "_law_at", "_law_look"]) fun _ _ _ _ _ _ us hl => match us, hl with | [_, _, _, _, _, _], _ => rfl
theorem f_Lcounts (T : Txt K mg) : Fun K "_law_counts" "_law_counts" s_Lcounts 818 (fdOf K 818) := T.df 69 (d := d_Lcounts) rfl
theorem b_Lcounts (T : Txt K mg) : Binds K (fdOf K 818) ["_law_rows_here", "_law_kinds_here"] [] := (f_Lcounts T).binds (ps := ["_law_rows_here", "_law_kinds_here"]) fun _ _ _ _ _ _ us hl => match us, hl with | [_, _], _ => rfl
theorem f_Lend (T : Txt K mg) : Fun K "_law_end" "_law_end" s_Lend 825 (fdOf K 825) := T.df 70 (d := d_Lend) rfl
theorem b_Lend (T : Txt K mg) : Binds K (fdOf K 825) ["_law_rows_here", "_law_kinds_here", "_law_root", "_law_counts_here", "_law_look"] [] := (f_Lend T).binds (ps := ["_law_rows_here", "_law_kinds_here", "_law_root", "_law_counts_here", "_law_look"]) fun _ _ _ _ _ _ us hl => match us, hl with | [_, _, _, _, _], _ => rfl
theorem f_Laudit (T : Txt K mg) : Fun K "_law_audit" "_law_audit" s_Laudit 832 (fdOf K 832) := T.df 71 (d := d_Laudit) rfl
theorem b_Laudit (T : Txt K mg) : Binds K (fdOf K 832) ["_law_tree"] [] := (f_Laudit T).binds (ps := ["_law_tree"]) fun _ _ _ _ _ _ us hl => match us, hl with | [_], _ => rfl
theorem f_Lheading (T : Txt K mg) : Fun K "_law_heading" "_law_heading" s_Lheading 839 (fdOf K 839) := T.df 72 (d := d_Lheading) rfl
theorem b_Lheading (T : Txt K mg) : Binds K (fdOf K 839) ["_law_tree", "_law_parts_here"] [] := (f_Lheading T).binds (ps := ["_law_tree", "_law_parts_here"]) fun _ _ _ _ _ _ us hl => match us, hl with | [_, _], _ => rfl
theorem f_Lnogoods (T : Txt K mg) : Fun K "_law_no_goods" "_law_no_goods" s_Lnogoods 846 (fdOf K 846) := T.df 73 (d := d_Lnogoods) rfl
theorem b_Lnogoods (T : Txt K mg) : Binds K (fdOf K 846) ["_law_tree", "_law_parts_here"] [] := (f_Lnogoods T).binds (ps := ["_law_tree", "_law_parts_here"]) fun _ _ _ _ _ _ us hl => match us, hl with | [_, _], _ => rfl
theorem f_Lstrange (T : Txt K mg) : Fun K "_law_strange" "_law_strange" s_Lstrange 853 (fdOf K 853) := T.df 74 (d := d_Lstrange) rfl
theorem b_Lstrange (T : Txt K mg) : Binds K (fdOf K 853) ["_law_parts_here", "_law_kinds_here", "_law_cell"] [] := (f_Lstrange T).binds (ps := ["_law_parts_here", "_law_kinds_here", "_law_cell"]) fun _ _ _ _ _ _ us hl => match us, hl with | [_, _, _], _ => rfl
theorem f_Lweighed (T : Txt K mg) : Fun K "_law_weighed" "_law_weighed" s_Lweighed 858 (fdOf K 858) := T.df 75 (d := d_Lweighed) rfl
theorem b_Lweighed (T : Txt K mg) : Binds K (fdOf K 858) ["_law_kinds_here", "_law_parts_here"] [] := (f_Lweighed T).binds (ps := ["_law_kinds_here", "_law_parts_here"]) fun _ _ _ _ _ _ us hl => match us, hl with | [_, _], _ => rfl
theorem f_Lthrough (T : Txt K mg) : Fun K "_law_through" "_law_through" s_Lthrough 865 (fdOf K 865) := T.df 76 (d := d_Lthrough) rfl
theorem b_Lthrough (T : Txt K mg) : Binds K (fdOf K 865) ["_law_rows_here", "_law_kinds_here", "_law_root", "_law_counts_here"] [] := (f_Lthrough T).binds (ps := ["_law_rows_here", "_law_kinds_here", "_law_root", "_law_counts_here"]) fun _ _ _ _ _ _ us hl => match us, hl with | [_, _, _, _], _ => rfl
theorem f_law (T : Txt K mg) : Fun K "law" "law" s_law 872 (fdOf K 872) := T.df 77 (d := d_law) rfl
theorem b_law (T : Txt K mg) : Binds K (fdOf K 872) ["_law_script"] [] := (f_law T).binds (ps := ["_law_script"]) fun _ _ _ _ _ _ us hl => match us, hl with | [_], _ => rfl
end
end TG
set_option Elab.async false
set_option linter.all false
set_option maxRecDepth 100000
set_option maxHeartbeats 8000000
/-! FS: set(l) of a list of ints; its place among the rules. -/
namespace TG
open PySem PySem.Spec PyProof.Rows L2
section
variable {P : Program} {w : World} {A : Around} {E : Value → Shared → Prop} {s : Shared}
abbrev emptySet (w : World) : Obj := { cls := .type "set", dict := none, data := .set #[] 0 (.fresh 0 0 (!w.params.followText "set-order")) }
theorem set_of_list {l : Addr} {items : Array Value} (ns : List Int) {Q : Value → Shared → Prop} (hh : A.handled = none) (hl : s.heap.IsList l items) (hit : IntsAre items.toList ns) (hb : ns.length + 1 < scanBound)
    (fin : ∀ (h' : Heap) (tk c : Nat), SetR w h' s.heap.objs.size (fun j => decide (j ∈ ns)) c → c ≤ ns.length → (∀ b o, s.heap.get? b = some o → h'.get? b = some o) → Q (.ref s.heap.objs.size) { s with heap := h', toks := tk }) :
    wpAny (model P w) A (call (.type "set") [.ref l]) Q E s := by
  have len : items.size = ns.length := by have q := IntsAre.length hit; simpa using q
  obtain ⟨_, _, mro⟩ := F.called_set.mro
  have x1 := F.called_set.made
  have x2 := F.called_set.sub
  have x3 := F.called_set.notType
  have x4 := F.called_set.canCreate
  have x5 := F.typeCall_set_1 (.ref l)
  refine wpAny_call (codeAny_of_tree ?_)
  show wpAny (model P w) A.in1 (callAny (.type "set") ⟨[.ref l], []⟩) _ _ s
  refine wpAny_pure ⟨Code.quiet_builtin _ (by decide +kernel), codeAny_builtin F.entry_type_call ?_⟩
  rw [Around.under_plain (weight_type_call_type "set" [.ref l] []) rfl]
  repeat (any_goals (first | assumption | wp_step))
  -- the empty set, then set.__init__
  refine codeAny_mono (code_set_led1 (P := P) (w := w) (.ref l) (E := E) (Q₁ := fun z s1 => z = .ref s.heap.objs.size ∧ s1 = { s with heap := s.heap.push (emptySet w) }) ⟨rfl, rfl⟩) fun r s1 g => ?_
  match r, g with
  | .error _, g => exact g
  | .ok (.next), g => exact g.elim
  | .ok (.brk), g => exact g.elim
  | .ok (.cont), g => exact g.elim
  | .ok (.ret z), g =>
    obtain ⟨rfl, rfl⟩ := g
    have at0 : (s.heap.push (emptySet w)).get? s.heap.objs.size = some (emptySet w) := Heap.get?_push_size _ rfl
    have ty0 : Shared.TypeIs { s with heap := s.heap.push (emptySet w) } (.ref s.heap.objs.size) "set" := ⟨_, at0, rfl⟩
    have y1 := F.called_set.init.lookup
    have y2 := F.called_set.init.bind (.ref s.heap.objs.size)
    repeat (any_goals (first | assumption | wp_step))
    refine codeAny_mono (codeAny_call_builtin (R := wants (fun r s2 => r = .none ∧ ∃ h' tk c, s2 = { s with heap := h', toks := tk } ∧ SetR w h' s.heap.objs.size (fun j => decide (j ∈ ns)) c ∧ c ≤ ns.length ∧ ∀ b o, s.heap.get? b = some o → h'.get? b = some o) E)
      F.called_set.init.plain F.entry_set_init (check_set_init_1 ty0 ?_)) fun r2 s2 g2 => ?_
    · obtain ⟨ol, hol, hcl, nl, hdl⟩ := hl
      obtain ⟨ocls, odict, odata, oslots⟩ := ol
      dsimp only at hcl hdl
      subst hcl hdl
      have at1 : (s.heap.push (emptySet w)).get? l = some ⟨.type "list", odict, .seq items nl, oslots⟩ := Heap.get?_push_of_some _ hol
      have is1 : (s.heap.push (emptySet w)).IsList l items := ⟨_, at1, rfl, nl, rfl⟩
      have z1 := F.sub_list_set
      have z2 := F.sub_list_frozenset
      have z3 : (Value.type "list" == Value.type "dict") = false := by decide
      unfold Builtin.«set.__init__» noKeywords Builtin.Frozenset.updateFrom
      generalize hPI : pyIter = PI
      wp_walk
      subst hPI
      refine wpAny_pyIter_list is1 (wpAny_bind (wpAny_runValue ?_))
      have lt0 : l < s.heap.objs.size := Heap.lt_size hol
      have sz : (s.heap.push (emptySet w)).objs.size = s.heap.objs.size + 1 := Heap.size_push ..
      have hA : A.in1.in1.in1.handled = none := by simpa using hh
      have ne1 : l ≠ (s.heap.push (emptySet w)).objs.size := by rw [sz]; exact Nat.ne_of_lt (Nat.lt_succ_of_lt lt0)
      have ne2 : s.heap.objs.size ∉ [(s.heap.push (emptySet w)).objs.size, l] := by
        rw [sz]
        intro q
        rcases List.mem_cons.mp q with q | q
        · exact absurd q (Nat.ne_of_lt (Nat.lt_succ_self _))
        · exact absurd (List.mem_singleton.mp q) (Nat.ne_of_gt lt0)
      have val : ∀ (i : Nat) (v : Value), items[i]? = some v → ∃ k t, ns[i]? = some k ∧ v = .int k t := fun i v hv => by
        have hi : i < ns.length := by rw [← len]; exact (Array.getElem?_eq_some_iff.mp hv).1
        obtain ⟨t, e⟩ := PyProof.Rows.IntsAre.int_at hit i v (by rw [Array.getElem?_toList]; exact hv)
        exact ⟨ns[i], t, List.getElem?_eq_getElem hi, by rw [e, List.getD_eq_getElem?_getD, List.getElem?_eq_getElem hi]; rfl⟩
      refine set_update_ints ((Walks.list hA _ l ne1 items).toS) s.heap.objs.size ne2 ns len hb val (items.size - 0) 0 _ (by omega) (Nat.zero_le _) ⟨⟨_, Heap.get?_push_size _ rfl, rfl, rfl⟩, is1.push _⟩ ⟨0, Nat.le_refl 0, setR_new_at ?_⟩ ?_
      · exact Heap.get?_push_of_some _ at0
      · rintro ⟨h', g', d', tk', os'⟩ c' hm hc' hS'
        have e1 : g' = s.gens := hm.gens
        have e2 : d' = s.drawn := hm.drawn
        have e3 : os' = s.os := hm.os
        subst e1 e2 e3
        refine wpAny_pure ?_
        rw [len] at hc'
        refine wpAny_pure ⟨rfl, h', tk', c', rfl, hS', hc', fun b o e => ?_⟩
        have b0 : b < s.heap.objs.size := Heap.lt_size e
        refine hm.heap b o (fun q => ?_) (Heap.get?_push_of_some _ (Heap.get?_push_of_some _ e))
        rcases List.mem_cons.mp q with q | q
        · exact absurd q (Nat.ne_of_lt b0)
        · have q2 := List.mem_singleton.mp q
          rw [sz] at q2
          exact absurd q2 (Nat.ne_of_lt (Nat.lt_succ_of_lt b0))
    · match r2, g2 with
      | .error _, g2 => exact g2
      | .ok (.next), g2 => exact g2.elim
      | .ok (.brk), g2 => exact g2.elim
      | .ok (.cont), g2 => exact g2.elim
      | .ok (.ret _), g2 =>
        obtain ⟨rfl, h', tk, c', rfl, hS', hc', hk'⟩ := g2
        repeat (any_goals (first | assumption | wp_step))
        exact fin _ _ _ hS' hc' hk'
end
section
variable {X : Cx}
def rSetL (K : PySem.W.Frag) (w : World) : List V → Hp → VK → Prop := fun xs H Q => ∃ (a : Addr) (ns : List Int), xs = [.ref a] ∧ SqL K H a (ns.map V.int) ∧ ns.length < 60 ∧ ∀ p c, H p = none → c ≤ ns.length → Q (.ref p) (upd H p (SetO w p (fun j => decide (j ∈ ns)) c))
theorem cr_setL (hc : X.calm = true) : CallR X (.type "set") (rSetL X.K X.w) := by
  intro pins s σ H xs us Q I r h
  obtain ⟨a, ns, rfl, hs, hl, q⟩ := h
  obtain rfl := Vals.ref1 r
  obtain ⟨its, rv, hL, hz⟩ := I.list hs
  refine set_of_list ns (I.ok.hd hc) hL.isList (by simpa using rv.ints) (Nat.lt_trans (Nat.succ_lt_succ hl) (by decide)) fun h' tk c hS hcl hk => ?_
  exact ⟨.ref _, upd H s.heap.objs.size (SetO X.w s.heap.objs.size (fun j => decide (j ∈ ns)) c), I.laid (t' := tk) hk (Nat.le_refl _) (setO_new hS), rfl, q _ c (I.hok.fresh (Nat.le_refl _)) hcl⟩
end
/-- the rising list of what stands in ns -/
def Rising (ns ms : List Int) : Prop := ms.Pairwise (· < ·) ∧ ∀ k, k ∈ ms ↔ k ∈ ns
section
variable {K : PySem.W.Frag} {Γ : Cxt} {te : TE} {w : World} {κ : TK}
/-- sorted(set(l)) -/
theorem ev_sortSet {ns : List Int} {s : Sl} (h : EvS te Γ (.d (.list (ns.map PyData.int)) κ)) (hl : ns.length < 60) (ms : List Int) (hm : Rising ns ms) (hu : ∀ ks, Rising ns ks → ks = ms) (hs : s = .own (ms.map PyData.int)) :
    EvS (tCB (rSortedSet w) (tCons (tCB (rSetL K w) (tCons te tNil)) tNil)) Γ s := fun B H σ Q g q => h B H σ _ g fun v B1 H1 st r _ => by
  subst hs
  obtain ⟨a, vs, rfl, ha, hr⟩ := RpK.lst_inv r
  rw [hr.ints] at ha
  refine ⟨a, ns, rfl, SqL.of (st.bh _ _ ha), hl, fun p c hp hc => ?_⟩
  refine ⟨p, _, c, rfl, upd_same, by omega, fun ks p2 h1 h2 h3 h4 => ?_⟩
  have e : ks = ms := hu ks ⟨h1, fun k => by rw [h2 k, decide_eq_true_eq]⟩
  subst e
  have st2 : Step B1 H1 B1 (upd (upd H1 p (SetO w p (fun j => decide (j ∈ ns)) c)) p2 (.lst (ks.map V.int))) := (Step.newH st.bh hp).trans (Step.newH (st.bh.trans (Gr.new hp)) h4)
  refine q _ B1 _ (st.trans st2) ⟨p2, _, rfl, ?_, upd_same, RpKA.of_ints ks⟩ fun _ => ⟨p2, rfl, ?_⟩
  · exact (st.bh.trans (Gr.new hp)).free h4
  · exact (st.hh.trans (Gr.new hp)).free h4
end
end TG
set_option Elab.async false
set_option linter.all false
set_option maxRecDepth 100000
set_option maxHeartbeats 4000000
/-! FT: max and index of a tuple of ints; sorted of alike data. -/
namespace TG
open PySem PySem.Spec PyProof.Rows L2
section
variable {X : Cx}
theorem IsTup.isTuple' {h : Heap} {a : Addr} {its : Array Value} (p : IsTup h a its) : h.IsTuple a its := p
def rMaxT (K : PySem.W.Frag) : List V → Hp → VK → Prop := fun vs H Q => ∃ (a : Addr) (n : Int) (ns : List Int), vs = [V.ref a] ∧ SqT K H a ((n :: ns).map V.int) ∧ Q (.int (ns.foldl max n)) H
theorem DpAll.of_ints {K : PySem.W.Frag} {H : Hp} : ∀ (ns : List Int), DpAll K H (ns.map V.int) (ns.map PyData.int)
  | [] => .nil
  | n :: ns => .cons (.int n) (DpAll.of_ints ns)
theorem cr_maxT (hc : X.calm = true) (hu : X.A.units + 65 < cLine) : CallR X (.builtin "max") (rMaxT X.K) := by
  intro pins s σ H vs us Q I r h
  obtain ⟨a, n, ns, rfl, hs, q⟩ := h
  obtain ⟨its, rv, hl, _⟩ := I.tuple hs
  rw [Vals.ref1 r]
  obtain ⟨as, hr⟩ := Dp.readsAll I ((n :: ns).map PyData.int) _ _ (DpAll.of_ints _) rv
  have hal : PySem.W.AlikeAll ((n :: ns).map PyData.int) := ⟨fun x hx y hy => by
    obtain ⟨i, _, rfl⟩ := List.mem_map.mp hx
    obtain ⟨j, _, rfl⟩ := List.mem_map.mp hy
    rfl, fun x hx => by
    obtain ⟨i, _, rfl⟩ := List.mem_map.mp hx
    intro e; cases e⟩
  refine PySem.W.max_tuple_data (x := .int n) (xs := ns.map PyData.int) (I.ok.hd hc) hl (by simpa using hr) hal ?_ fun i v h' tk bs hv hrd hk => ?_
  · have : PyData.depthAll ((n :: ns).map PyData.int) = 0 := PySem.W.depth_ints _
    show X.A.units + 1 + PyData.depthAll ((n :: ns).map PyData.int) < cLine
    rw [this]
    omega
  · rw [PySem.W.maxD_ints] at hrd
    cases hrd
    exact ⟨.int _, H, I.kept hk, ⟨_, rfl⟩, q⟩
def rTupIx (K : PySem.W.Frag) : V → List V → Hp → VK → Prop := fun x xs H Q => ∃ (a : Addr) (ns : List Int) (k : Int), x = .ref a ∧ xs = [.int k] ∧ SqT K H a (ns.map V.int) ∧ k ∈ ns ∧ Q (.int (ns.idxOf k : Nat)) H
theorem mt_tupIx : MtR X "tuple.index" (rTupIx X.K) := by
  intro pins s σ H x xs v us Q I rx rs h
  obtain ⟨p, ns, k, rfl, rfl, hq, hk, q⟩ := h
  cases rx
  obtain ⟨u, rfl, t, rfl⟩ := vals1 rs
  obtain ⟨its, r, pl, hz⟩ := I.tuple hq
  exact PySem.SeqAt.tuple_index_ints (vs := its) pl (by simpa using r.ints) hk ⟨.int _, H, I.tok _, ⟨_, rfl⟩, q⟩
/-- sorted(xs) of alike data -/
def rSortD (κ : TK) (K : PySem.W.Frag) : List V → Hp → VK → Prop := fun xs H Q => ∃ (a : Addr) (vs : List V) (ds : List PyData) (B : Hp), xs = [.ref a] ∧ SqL K H a vs ∧ Gr B H ∧ RpKA κ B vs ds ∧ PySem.W.AllAlike ds ∧ PySem.W.Sortable ds ∧ (∀ d ∈ ds, d.depth ≤ 60) ∧
  ∀ (out : List V) (p : Addr), H p = none → RpKA κ B out (ds.mergeSort (PySem.W.dataLe false id)) → Q (.ref p) (upd H p (.lst out))
def RV (κ : TK) (B : Hp) (u : Value) (d : PyData) : Prop := ∃ x, RelV x u ∧ RpK κ B x d
theorem each_rv {κ : TK} {B : Hp} : ∀ {vs : List V} {us : List Value} {ds : List PyData}, Vals vs us → RpKA κ B vs ds → PySem.W.EachIs (RV κ B) us ds
  | _, _, _, .nil, h => by cases h; exact .nil
  | _, _, _, .cons r t, h => by
    cases h with
    | cons a b => exact .cons ⟨_, r, a⟩ (each_rv t b)
theorem each_reads {X : Cx} {pins : List (Addr × Obj)} {σ : L2.St} {H : Hp} {s : Shared} {κ : TK} {B : Hp} (I : Inv X pins σ H s) (e : Gr B H) : ∀ {us : List Value} {ds : List PyData}, PySem.W.EachIs (RV κ B) us ds → PySem.W.EachIs (fun v d => ∃ as, Reads s.heap v (id d) as) us ds
  | _, _, .nil => .nil
  | _, _, .cons ⟨x, r, a⟩ t => .cons (Dp.reads I _ x _ (RpK.dp (RpK.mono e a)) r) (each_reads I e t)
theorem rv_each {κ : TK} {B : Hp} : ∀ {us : List Value} {ds : List PyData}, PySem.W.EachIs (RV κ B) us ds → ∃ vs, Vals vs us ∧ RpKA κ B vs ds
  | _, _, .nil => ⟨[], .nil, .nil⟩
  | _, _, .cons ⟨x, r, a⟩ t => let ⟨vs, h1, h2⟩ := rv_each t; ⟨x :: vs, .cons r h1, .cons a h2⟩
theorem cr_sortD {κ : TK} (hu : X.A.units + 65 < cLine) : CallR X (.builtin "sorted") (rSortD κ X.K) := by
  intro pins s σ H xs us Q I r h
  obtain ⟨a, vs, ds, B, rfl, hs, e, hr, hal, hk, hd, q⟩ := h
  obtain ⟨its, rv, hl, hz⟩ := I.list hs
  rw [Vals.ref1 r]
  have e1 := each_rv rv hr
  refine PySem.W.sorted_data (enc := id) hl.isList e1 (each_reads I e e1) (by rw [List.map_id]; exact hal) (by rw [List.map_id]; exact hk) (by rw [← hr.len]; exact hz) (fun b hb => ?_) fun out hlen ho => ?_
  · have := hd b hb
    show X.A.units + 2 + b.depth < cLine
    omega
  · obtain ⟨ws, h1, h2⟩ := rv_each ho
    obtain ⟨ep, he'⟩ := PyProof.Rows.sortedAll_at s.heap its out.toArray
    have hlw : ws.length ≤ sizeLine := by rw [h1.length, hlen, ← hr.len]; exact hz
    exact ⟨.ref _, upd H (s.heap.objs.size + 1) (.lst ws), I.laid (t' := s.toks) (fun _ _ => PyProof.Rows.sortedAll_old) (Nat.le_succ _) ⟨hlw, out, ep, h1, by simpa using he'⟩, rfl, q ws _ (I.hok.fresh (Nat.le_succ _)) h2⟩
end
section
variable {K : PySem.W.Frag} {Γ : Cxt} {te ta : TE} {κ : TK}
theorem ev_maxT {n : Int} {ns : List Int} (h : EvS te Γ (.d (.tuple ((n :: ns).map PyData.int)) κ)) : EvS (tCB (rMaxT K) (tCons te tNil)) Γ (dI (ns.foldl max n)) :=
  ev_cb (ea_cons h ea_nil) fun B H vs Q e r q => by
    obtain ⟨v, rfl, r1⟩ := r.one
    obtain ⟨a, ws, rfl, h1, q1⟩ := RpK.tup_inv r1
    rw [q1.ints] at h1
    exact ⟨a, n, ns, rfl, Or.inl (rd_mono e h1), q.now e (RpK.int _) rfl⟩
theorem ev_sortD {ds : List PyData} (h : EvS te Γ (.d (.list ds) κ)) (hal : PySem.W.AllAlike ds) (hk : PySem.W.Sortable ds) (hd : ∀ d ∈ ds, d.depth ≤ 60) : EvS (tCB (rSortD κ K) (tCons te tNil)) Γ (.own (ds.mergeSort (PySem.W.dataLe false id)) κ) :=
  ev_cb (ea_cons h ea_nil) fun B H vs Q e r q => by
    obtain ⟨v, rfl, r1⟩ := r.one
    obtain ⟨a, ws, rfl, h1, q1⟩ := RpK.lst_inv r1
    exact ⟨a, ws, ds, B, rfl, SqL.of (e _ _ h1), e, q1, hal, hk, hd, fun out p hp ro => q _ B _ (Step.newH e hp) ⟨p, out, rfl, e.free hp, upd_same, ro⟩ fun _ => ⟨p, rfl, hp⟩⟩
end
end TG
set_option Elab.async false
set_option linter.all false
set_option maxRecDepth 100000
set_option maxHeartbeats 4000000
/-! FK: sorted(xs, key=f), f a def of the program's own. -/
namespace TG
open PySem PySem.Spec PyProof.Rows L2
section
variable {X : Cx} {pins : List (Addr × Obj)} {σ : L2.St} {H : Hp} {s : Shared}
/-- what a turn of the key's loop keeps -/
structure KT (X : Cx) (pins : List (Addr × Obj)) (σ : L2.St) (H B : Hp) (s : Shared) (κ' : TK) (a kS : Addr) (e1 : Nat) (ky : PyData → PyData) (ds : List PyData) (i : Nat) (s' : Shared) : Prop where
  ex : ∃ (H' B' : Hp) (kv : List V), Inv X pins σ H' s' ∧ Un (frs X.stack) [] H H' s.heap s'.heap ∧ s'.os = s.os ∧ Gr B B' ∧ Gr B' H' ∧ Gr H H' ∧ (∀ b o, B b = none → H b = some o → NT o → B' b = none) ∧ B' a = none ∧ B' kS = none ∧
    H' a = none ∧ s'.heap.get? a = some (seqObj "list" #[] e1) ∧ H' kS = some (.lst kv) ∧ RpKA κ' B' kv ((ds.take i).map ky)
theorem Un.fs0 {fs ex : List Addr} {H H' : Hp} {h h' : Heap} (u : Un [] ex H H' h h') : Un fs ex H H' h h' where
  keep := fun b o e n _ hx => u.keep b o e n (by simp) hx
  slot := fun b o e n _ hx => ⟨o.slots, u.keep b o e n (by simp) hx⟩
  free := u.free
  there := u.there
  tups := u.tups
  frzs := u.frzs
  tbls := u.tbls
def rSortK (κ κ' : TK) (X : Cx) (f : Addr) (Pf : Prom) : List V → List V → Hp → VK → Prop := fun xs zs H Q => ∃ (a : Addr) (vs : List V) (ds : List PyData) (B : Hp) (ky : PyData → PyData), xs = [.ref a] ∧ zs = [.ref f] ∧ SqL X.K H a vs ∧ Gr B H ∧ RpKA κ B vs ds ∧
  PySem.W.AllAlike (ds.map ky) ∧ PySem.W.Sortable (ds.map ky) ∧ (∀ d ∈ ds, (ky d).depth ≤ 60) ∧ (∀ d ∈ ds, Pf [.d d κ] (.d (ky d) κ')) ∧
  ∀ (out : List V) (p : Addr) (B' H' : Hp), Step B H B' H' → H p = none → B' p = none → H' p = some (.lst out) → RpKA κ B' out (ds.mergeSort (PySem.W.dataLe false ky)) → Q (.ref p) H'
theorem cr_sortK {κ κ' : TK} {k : Nat} {f : Addr} {fd : FuncData} {y : Str} {Pf : Prom} (F : FnOk X.prog X.w X.K X.mg X.base CX0 k f fd [y] (spD Pf noX)) (hr : Room (k + 2) X.A) (hb : Binds X.K fd [y] []) : CallRK X (.builtin "sorted") ["key"] (rSortK κ κ' X f Pf) := by
  intro pins s σ H xs zs us ws Q I r r2 h
  obtain ⟨l, vs, ds, B, ky, rfl, rfl, hs, gBH, hrp, hal, hsk, hdp, hpf, q⟩ := h
  obtain rfl := Vals.ref1 r
  obtain rfl := Vals.ref1 r2
  obtain ⟨its, rv, hl, hz⟩ := I.list hs
  have hlen : its.length = ds.length := by rw [← rv.length, hrp.len]
  have hzi : its.length ≤ sizeLine := by rw [← rv.length]; exact hz
  have hu : X.A.units + 65 < cLine := by have := hr.un; omega
  show wpAny _ _ (call (.builtin "sorted") [.ref l] [(Str.ofString "key", .ref f)]) _ _ _
  refine PySem.W.sorted_of_sort hl.isList hzi (ksk_s1 _ _) (fun x => ksk_l1 _ _) fun E' => ?_
  rw [ksk_t1]
  -- the shell
  have fresh : ∀ b o, s.heap.get? b = some o → b ≠ s.heap.objs.size + 1 := fun b o e => Nat.ne_of_lt (Nat.lt_succ_of_lt (Heap.lt_size e))
  have ho := PySem.W.copyHeap_at s.heap its
  have hsC : s.heap.objs.size + 1 < (PySem.W.copyHeap s.heap its).objs.size := Heap.lt_size ho
  obtain ⟨e1, ho1⟩ : ∃ e1, ((PySem.W.copyHeap s.heap its).update (s.heap.objs.size + 1) (Obj.mapSeq fun _ => (#[] : Array Value))).get? (s.heap.objs.size + 1) = some (seqObj "list" #[] e1) := ⟨_, get?_update_seq ho fun _ => #[]⟩
  have k1 : ∀ b o, s.heap.get? b = some o → ((PySem.W.copyHeap s.heap its).update (s.heap.objs.size + 1) (Obj.mapSeq fun _ => (#[] : Array Value))).get? b = some o := fun b o e =>
    (Heap.get?_update_ne _ _ _ _ (fresh b o e)).trans (PySem.W.copyHeap_old e)
  unfold ksk_tree
  refine wpAny_bind (listItems_at ho rfl ?_)
  refine wpAny_bind (listUpdate_at ho rfl ?_ (by rw [List.size_toArray]; exact hzi) (Nat.zero_le _))
  refine wpAny_bind (seqEpoch_at ho1 rfl ?_)
  refine wpAny_bind (wpAny_newTuple ?_ (by show its.length ≤ _; exact hzi))
  refine wpAny_bind (wpAny_newList ?_ (Nat.zero_le _))
  refine wpAny_holding ?_
  have ea : s.heap.objs.size + 1 = s.heap.objs.size + 1 := rfl
  generalize hg1 : (PySem.W.copyHeap s.heap its).update (s.heap.objs.size + 1) (Obj.mapSeq fun _ => (#[] : Array Value)) = g1 at ho1 k1
  generalize ha : s.heap.objs.size + 1 = a at ho1 fresh
  have sz1 : a < g1.objs.size := Heap.lt_size ho1
  -- the tracked heap
  have na : H a = none := by rw [← ha]; exact I.hok.fresh (Nat.le_succ _)
  have nfr : a ∉ frs X.stack := fun hb => by
    obtain ⟨_, o, ho, _⟩ := I.stack.mem hb
    exact fresh a o ho rfl
  have I1 : Inv X pins σ H { s with heap := g1, toks := s.toks } := I.kept k1
  have I2 : Inv X pins σ H { s with heap := g1.push (seqObj "tuple" its.toArray 0), toks := s.toks } := I1.kept fun b u e => Heap.get?_push_of_some _ e
  obtain ⟨kS, hkS⟩ : ∃ kS, kS = (g1.push (seqObj "tuple" its.toArray 0)).objs.size := ⟨_, rfl⟩
  have sz2 : a < kS := by rw [hkS, size_push']; omega
  have I3 : Inv X pins σ (upd H kS (.lst [])) { s with heap := (g1.push (seqObj "tuple" its.toArray 0)).push (seqObj "list" #[] 0), toks := s.toks } := I2.laid (a := kS) (o := .lst []) (fun b u e => Heap.get?_push_of_some _ e) (by rw [hkS]; exact Nat.le_refl _) ⟨Nat.zero_le _, [], 0, .nil, by rw [hkS]; exact Heap.get?_push_size _ rfl⟩
  have k3 : ∀ b o, s.heap.get? b = some o → ((g1.push (seqObj "tuple" its.toArray 0)).push (seqObj "list" #[] 0)).get? b = some o := fun b o e => Heap.get?_push_of_some _ (Heap.get?_push_of_some _ (k1 b o e))
  have nkH : H kS = none := I2.hok.fresh (by rw [hkS]; exact Nat.le_refl _)
  have bigS : ∀ b o, s.heap.get? b = some o → b < s.heap.objs.size := fun b o e => Heap.lt_size e
  have u3 : Un (frs X.stack) [] H (upd H kS (.lst [])) s.heap ((g1.push (seqObj "tuple" its.toArray 0)).push (seqObj "list" #[] 0)) := Un.laid k3 (by omega) nkH
  have hoa : ((g1.push (seqObj "tuple" its.toArray 0)).push (seqObj "list" #[] 0)).get? a = some (seqObj "list" #[] e1) := Heap.get?_push_of_some _ (Heap.get?_push_of_some _ ho1)
  rw [← hkS]
  refine PySem.wpAny_mono (Q := fun fn s' => fn = .done (.ret .none) ∧ EP X pins σ Q (.ref a) s') ?_ (fun _ _ e => e) (fun _ _ e => e)
  unfold ksk_rest
  refine wpAny_bind (wpAny_rule ?_)
  first
    | rw [List.forIn_toArray]
    | (rw [← Array.forIn_toList]; simp only [List.toList_toArray])
    | rw [← Array.forIn_toList]
  refine wpAny_bind (ksk_fold (fun i s' => KT X pins σ H B s κ' a kS e1 ky ds i s') its 0 _ ⟨⟨_, B, [], I3, u3, rfl, .rfl, ?_, ?_, fun _ _ e _ _ => e, gBH.free na, gBH.free nkH, ?_, hoa, upd_same, ?_⟩⟩ ?step ?done)
  · exact gBH.trans (Gr.new nkH)
  · exact Gr.new nkH
  · rw [upd_ne (Nat.ne_of_lt sz2)]; exact na
  · simp; exact .nil
  case step =>
    rintro j u s' hx ⟨Hn, Bn, kv, In, Unn, hos, gB, gBH', gH, hfr, nBa, nBk, hHa, hGa, hHk, rk⟩
    simp only [Nat.zero_add] at rk ⊢
    have hj : j < its.length := (List.getElem?_eq_some_iff.mp hx).1
    obtain ⟨d, hd⟩ : ∃ d, ds[j]? = some d := ⟨_, List.getElem?_eq_getElem (by omega)⟩
    obtain ⟨x, hxv, rx⟩ := hrp.get hd
    have rxu : RelV x u := by
      obtain ⟨u', h1, h2⟩ := rv.get (i := j) (x := x) hxv
      rw [hx] at h1
      cases h1
      exact h2
    have hkl : kv.length = j := by
      have := rk.len
      rw [List.length_map, List.length_take] at this
      omega
    have rA : Room k X.A.in1.in1 := (Room.in1 (k := k + 1) hr).in1
    refine wpAny_bind (wpAny_attempt (wpAny_mono (Q := fun v s'' => ∃ z H', Inv X pins σ H' s'' ∧ RelV z v ∧ Un (frs X.stack) [] Hn H' s'.heap s''.heap ∧ s''.os = s'.os ∧ ∃ B', Step Bn Hn B' H' ∧ RpK κ' B' z (ky d)) (E := fun _ _ => False) ?_ (fun v s'' he => ?_) fun _ _ hF => hF.elim))
    · refine wpAny_call (codeAny_mono (F.run X.A.in1.in1 X.stack s' Hn ⟨[u], []⟩ [u] [x] (fun z H' => ∃ B', Step Bn Hn B' H' ∧ RpK κ' B' z (ky d)) (fun _ _ _ => True) rA In.env0.in1.in1 (by simpa using hb s' [u] In.kIn rfl) (.cons rxu .nil) ⟨Bn, [.d d κ], gBH', .cons ⟨RpK.mono gB rx, rfl⟩ .nil, .inl ⟨_, hpf d (List.mem_of_getElem? hd), fun z B' H' st rz _ => ⟨B', st, rz⟩⟩⟩) fun rr s'' hq => ?_)
      cases rr with
      | error e => exact hq.elim
      | ok fl =>
        cases fl with
        | ret w2 =>
          obtain ⟨z, H', os, bare, un, hok, rz, qz⟩ := hq
          refine ⟨z, H', In.call' os un hok bare (fun b z => absurd z (by simp)), rz, un, os, qz⟩
        | next => exact False.elim hq
        | brk => exact False.elim hq
        | cont => exact False.elim hq
    · obtain ⟨z, H', I', rz, un, os, B', st, rpz⟩ := he
      · try dsimp only
        have hHk' := st.hh _ _ hHk
        have hGa' := un.keep a _ hGa hHa nfr (by simp)
        have hHa' := un.free a _ hGa hHa (by simp)
        have nBk' : B' kS = none := st.fr kS _ nBk hHk trivial
        have nBa' : B' a = none := st.bh.free hHa'
        obtain ⟨zz, ks, n, rks, lks, eks⟩ := I'.lstM hHk'
        have hks : ks.length = j := by rw [← lks]; exact hkl
        refine wpAny_bind (listUpdate_at eks rfl ?_ (by rw [List.size_toArray]; omega) (by rw [Array.size_push, List.size_toArray]; omega))
        refine wpAny_pure ⟨rfl, ?_⟩
        have Iw := I'.lset (its' := ks ++ [v]) (f := (·.push v)) (t' := s''.toks) hHk' eks (by simp) (rks.append (.cons rz .nil)) (by rw [List.length_append, List.length_singleton]; omega)
        refine ⟨⟨_, B', kv ++ [z], Iw, (Unn.trans un).trans (Un.write (x := kS) (e := kS) (by rw [hHk']; exact trivial) (.inl rfl) (fun b' u' hb' hu' => (Heap.get?_update_other s''.heap (Obj.mapSeq (·.push v)) (Ne.symm hb')).trans hu') ⟨_, PySem.IsL.update eks (·.push v)⟩), os.trans hos, gB.trans st.bb, ?_, ?_, fun b o e1 e2 n => st.fr b o (hfr b o e1 e2 n) (gH b o e2) n, nBa', nBk', ?_, ?_, upd_same, ?_⟩⟩
        · intro b o e
          rw [upd_ne (ne_of_none e nBk')]
          exact st.bh b o e
        · intro b o e
          rw [upd_ne (ne_of_none e nkH)]
          exact st.hh b o (gH b o e)
        · rw [upd_ne (Nat.ne_of_lt sz2)]; exact hHa'
        · exact (Heap.get?_update_other s''.heap (Obj.mapSeq (·.push v)) (Nat.ne_of_gt sz2)).trans hGa'
        · rw [List.take_add_one, hd]
          simp only [Option.toList_some, List.map_append, List.map_cons, List.map_nil]
          exact (RpKA.mono st.bb rk).append (.one rpz)
  case done =>
    rintro s' ⟨Hn, Bn, kv, In, Unn, hos, gB, gBH', gH, hfr, nBa, nBk, hHa, hGa, hHk, rk⟩
    have e3 : ds.take (0 + its.length) = ds := List.take_of_length_le (by omega)
    rw [e3] at rk
    obtain ⟨zz, ks, n, rks, lks, eks⟩ := In.lstM hHk
    have hksl : ks.length = its.length := by
      have := rk.len
      rw [List.length_map] at this
      omega
    try dsimp only
    refine wpAny_bind (listItems_at eks rfl ?_)
    obtain ⟨G, g1', g2'⟩ := L2.restrict s'.heap fun b => decide (b ≠ kS)
    have ekr : PySem.W.EachIs (fun v d => ∃ as, Reads s'.heap v d as) ks (ds.map ky) := each_reads In gBH' (each_rv rks rk)
    refine PySem.W.keyH_end (κ := PySem.W.dataKind s'.heap (ds.map ky)) (h₁ := G) (fun b o hb e => ?_) (g2' kS (by simp)) eks hGa (Nat.ne_of_gt sz2) (PySem.W.SortsAt.data (s := s') (vs := ks) ekr hal hsk ?_) (by rw [List.size_toArray]; exact hksl) hzi fun h' tk c kp ha' => ⟨rfl, ?_⟩
    · have ne : b ≠ kS := by rintro rfl; rw [g2' b (by simp)] at e; cases e
      rw [← g1' b (by simpa using ne)]; exact e
    · intro d hd
      obtain ⟨d', hd', rfl⟩ := List.mem_map.mp hd
      have := hdp d' hd'
      show X.A.units + 1 + 1 + (ky d').depth < cLine
      omega
    · have ko : PySem.W.KeyedOut false (ds.map ky) its (PySem.W.sortVals (PySem.W.dataKind s'.heap (ds.map ky)) false ks its) := ⟨s'.heap, ks, hal, rfl, ekr⟩
      have eo := PySem.W.keyedOut_each ky ko (each_rv rv hrp)
      obtain ⟨ws, hw1, hw2⟩ := rv_each eo
      have keepH : ∀ b o, b ≠ a → b ≠ kS → s'.heap.get? b = some o → h'.get? b = some o := fun b o h1 h2 e => kp b o h1 (by rw [g1' b (by simpa using h2)]; exact e)
      have hSn : ∀ b o, s.heap.get? b = some o → b ≠ a ∧ b ≠ kS := fun b o e => by
        have := bigS b o e
        have h1 : b < a := by rw [← ha]; exact Nat.lt_succ_of_lt this
        exact ⟨Nat.ne_of_lt h1, Nat.ne_of_lt (Nat.lt_trans h1 sz2)⟩
      have hwl : ws.length ≤ sizeLine := by
        rw [hw1.length]
        have := ko.length (by rw [List.length_map]; exact hlen.symm)
        omega
      obtain ⟨Hf, hHf⟩ : ∃ Hf : Hp, Hf = fun b => if b = kS then none else if b = a then some (.lst ws) else Hn b := ⟨_, rfl⟩
      have hfa : Hf a = some (.lst ws) := by rw [hHf]; show (if a = kS then none else if a = a then _ else _) = _; rw [if_neg (Nat.ne_of_lt sz2), if_pos rfl]
      have hfo : ∀ b, b ≠ a → b ≠ kS → Hf b = Hn b := fun b h1 h2 => by rw [hHf]; show (if b = kS then none else if b = a then _ else _) = _; rw [if_neg h2, if_neg h1]
      have hfk : Hf kS = none := by rw [hHf]; show (if kS = kS then none else if kS = a then _ else _) = _; rw [if_pos rfl]
      have up : ∀ b o, Hn b = some o → (∀ xs, o ≠ .lst xs) → Hf b = some o := fun b o e n => by
        have h1 : b ≠ a := by rintro rfl; rw [hHa] at e; cases e
        have h2 : b ≠ kS := by rintro rfl; rw [hHk] at e; cases e; exact n _ rfl
        rw [hfo b h1 h2]; exact e
      have un' : Un (frs X.stack) [] H Hf s.heap h' := by
        refine ⟨fun b o e n hb hx => ?_, fun b o e n hb hx => ?_, fun b o e n hx => ?_, fun b o e hx => ?_, fun b xs e => up b _ (Unn.tups b xs e) (by intro _ z; cases z), fun b o u e => up b _ (Unn.frzs b o u e) (by intro _ z; cases z), fun b ps e => ?_⟩
        · obtain ⟨h1, h2⟩ := hSn b o e; exact keepH b o h1 h2 (Unn.keep b o e n hb hx)
        · obtain ⟨h1, h2⟩ := hSn b o e
          obtain ⟨sl, hsl⟩ := Unn.slot b o e n hb hx
          exact ⟨sl, keepH b _ h1 h2 hsl⟩
        · obtain ⟨h1, h2⟩ := hSn b o e
          rw [hfo b h1 h2]; exact Unn.free b o e n hx
        · obtain ⟨h1, h2⟩ := hSn b o e
          obtain ⟨o', ho'⟩ := Unn.there b o e hx
          exact ⟨o', keepH b _ h1 h2 ho'⟩
        · obtain ⟨more, hm⟩ := Unn.tbls b ps e
          exact ⟨more, up b _ hm (by intro _ z; cases z)⟩
      have hok' : HOk X.prog X.w Hf h' := fun b o e => by
        by_cases hb : b = a
        · subst hb
          rw [hfa] at e
          cases e
          exact ⟨hwl, _, c, hw1, by simpa using ha'⟩
        · by_cases hk : b = kS
          · rw [hk, hfk] at e; cases e
          · rw [hfo b hb hk] at e
            refine (In.hok b o e).stay (fun c' u' hc' e' => keepH c' u' ?_ ?_ e') (fun c' e' => up c' _ e' (by intro _ z; cases z)) fun c' xs e' => up c' _ e' (by intro _ z; cases z)
            · rcases hc' with rfl | hc'
              · exact hb
              · rintro rfl; rw [hHa] at hc'; cases hc'
            · rcases hc' with rfl | hc'
              · exact hk
              · rintro rfl; rw [hHk] at hc'; cases hc'
      refine ⟨.ref a, Hf, I.call' (ch := []) hos un' hok' In.bare (fun b z => absurd z (by simp)), rfl, q ws a Bn Hf ⟨gB, fun b o e => ?_, fun b o e => ?_, hfr⟩ na nBa hfa (RpKA.mono gB hw2)⟩
      · have h1 : b ≠ a := ne_of_none e na
        have h2 : b ≠ kS := ne_of_none e nkH
        rw [hfo b h1 h2]; exact gH b o e
      · have h1 : b ≠ a := ne_of_none e nBa
        have h2 : b ≠ kS := ne_of_none e nBk
        rw [hfo b h1 h2]; exact gBH' b o e
end
section
variable {X : Cx} {Γ : Cxt} {te ta : TE} {κ κ' : TK}
theorem ev_sortK {f : Addr} {Pf : Prom} {ds : List PyData} {ky : PyData → PyData} (h : EvS te Γ (.d (.list ds) κ)) (hal : PySem.W.AllAlike (ds.map ky)) (hk : PySem.W.Sortable (ds.map ky)) (hd : ∀ d ∈ ds, (ky d).depth ≤ 60) (hp : ∀ d ∈ ds, Pf [.d d κ] (.d (ky d) κ')) :
    EvS (tCKw (rSortK κ κ' X f Pf) (tCons te tNil) (tCons (tC (.ref f)) tNil)) Γ (.own (ds.mergeSort (PySem.W.dataLe false ky)) κ) := fun B H σ Q g q =>
  h B H σ _ g fun v B1 H1 st r _ => by
    obtain ⟨a, ws, rfl, ha, hr⟩ := RpK.lst_inv r
    exact ⟨a, ws, ds, B1, ky, rfl, rfl, SqL.of (st.bh _ _ ha), st.bh, hr, hal, hk, hd, hp, fun out p B' H' st2 n1 n2 h1 ro => q _ B' H' (st.trans st2) ⟨p, out, rfl, n2, h1, ro⟩ fun _ => ⟨p, rfl, st.hh.free n1⟩⟩
end
end TG
set_option Elab.async false
set_option linter.all false
set_option maxRecDepth 100000
set_option maxHeartbeats 4000000
/-! FF: tuples made as known objects: display, sum, tuple(list); their method index. -/
namespace TG
open PySem PySem.Spec PyProof.Rows L2
def isTO (o : Obj) : Prop := o.cls = .type "tuple" ∧ o.dict = none
def rNewF (xs : List V) (H : Hp) (Q : VK) : Prop := ∀ p o, H p = none → isTO o → Q (.ref p) (upd H p (.frz o (.tup xs)))
def tTupF (t : TA) : TE := fun σ H Q => t σ H fun xs H1 => xs.length ≤ sizeLine ∧ rNewF xs H1 Q
section
variable {X : Cx} {es : List Expr} {t : TA} {pos : Pos}
theorem pe_tupF {x1} (h : PA X es t) : PE X (.Tuple es x1 pos) (tTupF t) := by
  refine ⟨fun pins s σ H Q I hq => ?_⟩
  refine wpAny_Tuple_spliced (thn (h.run pos pins s σ H _ I hq) fun us s1 ⟨xs, H1, I1, r, z, q⟩ => ⟨by rw [← r.length]; exact z, ?_⟩)
  have hf : H1 s1.heap.objs.size = none := I1.hok.fresh (Nat.le_refl _)
  refine ⟨.ref s1.heap.objs.size, upd H1 s1.heap.objs.size (.frz { cls := .type "tuple", data := .seq us.toArray 0 } (.tup xs)), I1.laid (t' := s1.toks) (fun b u e => Heap.get?_push_of_some _ e) (Nat.le_refl _) ?_, rfl, q _ _ hf ⟨rfl, rfl⟩⟩
  exact ⟨Heap.get?_push_size _ rfl, z, us, r, ⟨_, Heap.get?_push_size _ rfl, rfl, _, rfl⟩⟩
def rTupOfF (K : PySem.W.Frag) : List V → Hp → VK → Prop := fun xs H Q => ∃ p ys, xs = [.ref p] ∧ SqL K H p ys ∧ rNewF ys H Q
theorem call_tupOfF : CallR X (.type "tuple") (rTupOfF X.K) := by
  intro pins s σ H xs us Q I r h
  obtain ⟨p, ys, rfl, hq, q⟩ := h
  obtain ⟨u, rfl, rx⟩ := vals1 r
  cases rx
  obtain ⟨its, r', pl, hz⟩ := I.list hq
  have hlen := r'.length
  refine call_tuple_list pl.isList (fun h' kp => ?_) (by simp only [List.size_toArray] <;> omega)
  have I1 : Inv X pins σ H { s with heap := h' } := I.kept (t' := s.toks) kp
  have I2 : Inv X pins σ (upd H h'.objs.size (.frz { cls := .type "tuple", data := .seq its.toArray } (.tup ys))) { s with heap := h'.push { cls := .type "tuple", data := .seq its.toArray } } :=
    I1.laid (t' := s.toks) (fun b o e => Heap.get?_push_of_some _ e) (Nat.le_refl _) (show ObjOk X.prog X.w _ _ _ (.frz _ (.tup ys)) from ⟨Heap.get?_push_size _ rfl, hz, its, r', IsTup.new _ _⟩)
  exact ⟨.ref h'.objs.size, _, I2, rfl, q _ _ (I1.hok.fresh (Nat.le_refl _)) ⟨rfl, rfl⟩⟩
def rCatF (K : PySem.W.Frag) : R2 := fun x y H Q => ∃ a b xs ys, x = .ref a ∧ y = .ref b ∧ SqT K H a xs ∧ SqT K H b ys ∧ ys ≠ [] ∧ xs.length + ys.length ≤ sizeLine ∧ (xs = [] → Q (.ref b) H) ∧ (xs ≠ [] → rNewF (xs ++ ys) H Q)
theorem op_catF : OpR X (binaryOp .Add) (rCatF X.K) := by
  intro pins s σ H x y v u Q I rx ry h
  obtain ⟨a, b, xs, ys, rfl, rfl, ha, hb, hy, hz, q0, q2⟩ := h
  cases rx
  cases ry
  obtain ⟨its, r1, p1, _⟩ := I.tuple ha
  obtain ⟨its2, r2, p2, _⟩ := I.tuple hb
  by_cases hx : xs = []
  · subst hx
    cases r1
    exact cat_tup0 p1 p2 ⟨.ref b, H, I, rfl, q0 rfl⟩
  · refine HT.cat_tup p1 p2 (fun z => hx (r1.nil_iff.mp z)) (fun z => absurd (r2.nil_iff.mp z) hy) (fun z => ?_) (by rw [← r1.length, ← r2.length]; exact hz)
    refine ⟨.ref s.heap.objs.size, _, I.laid (t' := s.toks) (o := .frz { cls := .type "tuple", data := .seq (its ++ its2).toArray } (.tup (xs ++ ys))) (fun b ob q => Heap.get?_push_of_some _ q) (Nat.le_refl _) ?_, rfl, q2 hx _ _ (I.hok.fresh (Nat.le_refl _)) ?_⟩
    · exact ⟨Heap.get?_push_size _ rfl, by rw [List.length_append]; exact hz, _, r1.append r2, IsTup.new _ _⟩
    · exact ⟨rfl, rfl⟩
def tyF (x : V) (H : Hp) : Prop := ∃ a o xs, x = .ref a ∧ H a = some (.frz o (.tup xs)) ∧ isTO o
theorem tyF_ok : TyOk X "tuple" tyF := fun pins σ H s x v I r ⟨a, o, xs, e, h, c⟩ => by
  subst e
  cases r
  obtain ⟨h1, _⟩ := I.hok a _ h
  exact ⟨⟨o, h1, c.1⟩, fun b hb => by cases hb; exact ⟨o, h1, c.2⟩⟩
end
section
variable {K : PySem.W.Frag} {Γ : Cxt} {te ta tb : TE}
theorem Step.newF {B H : Hp} {p : Addr} {o : HO} (e : Gr B H) (h : H p = none) : Step B H (upd B p o) (upd H p o) := Step.new e h
theorem ev_tupF {ta : TA} {ds : List PyData} (h : EvA ta Γ (ds.map fun x => Sl.d x .fz)) (hl : ds.length ≤ 100000) : EvS (tTupF ta) Γ (.d (.tuple ds) .fz) := fun B H σ Q g q =>
  h B H σ _ g fun vs B1 H1 st1 r1 => ⟨sl1000 (by rw [(SlA.rp r1).len]; exact hl), fun p o hp ho => q _ (upd B1 p (.frz o (.tup vs))) _ (st1.trans (Step.new st1.bh hp)) (RpK.tupF (by intro z; cases z) upd_same ho.1 ho.2 (RpKA.mono (Gr.new (st1.bh.free hp)) (SlA.rp r1))) (.no rfl)⟩
theorem ev_tupOfF {κ : TK} {ds : List PyData} (h : EvS te Γ (.d (.list ds) κ)) (hs : ∀ d ∈ ds, isSc d = true) : EvS (tCB (rTupOfF K) (tCons te tNil)) Γ (.d (.tuple ds) .fz) :=
  ev_cb (ea_cons h ea_nil) fun B H vs Q e r q => by
    obtain ⟨v, rfl, r1⟩ := r.one
    obtain ⟨a, ws, rfl, h1, q1⟩ := RpK.lst_inv r1
    exact ⟨a, ws, rfl, SqL.of (e _ _ h1), fun p o hp ho => q _ (upd B p (.frz o (.tup ws))) _ (Step.new e hp) (RpK.tupF (by intro z; cases z) upd_same ho.1 ho.2 (RpKA.mono (Gr.new (e.free hp)) (q1.sc hs))) (.no rfl)⟩
theorem ev_catF {a b : List PyData} (ha : EvS ta Γ (.d (.tuple a) .fz)) (hb : EvS tb Γ (.d (.tuple b) .fz)) (hn : b ≠ []) (hl : a.length + b.length ≤ 100000) : EvS (tOp (rCatF K) ta tb) Γ (.d (.tuple (a ++ b)) .fz) :=
  ev_op2 ha hb rfl rfl fun B H v w Q e r1 r2 q => by
    obtain ⟨p1, vs, rfl, h1, q1⟩ := RpK.tup_inv r1
    obtain ⟨p2, ws, rfl, h2, q2⟩ := RpK.tup_inv r2
    refine ⟨p1, p2, vs, ws, rfl, rfl, .inl (rd_mono e h1), .inl (rd_mono e h2), fun z => ?_, sl1000 (by rw [q1.len, q2.len]; exact hl), fun e1 => ?_, fun _ p o hp ho => ?_⟩
    · subst z; cases q2; exact hn rfl
    · subst e1
      cases q1
      exact q.now e r2 rfl
    · exact q _ (upd B p (.frz o (.tup (vs ++ ws)))) _ (Step.new e hp) (RpK.tupF (by intro z; cases z) upd_same ho.1 ho.2 (RpKA.mono (Gr.new (e.free hp)) (q1.append q2))) (.no rfl)
theorem ev_tupIx {ns : List Int} {i : Int} (h : EvS te Γ (.d (.tuple (ns.map PyData.int)) .fz)) (ha : EvS ta Γ (dI i)) (hm : i ∈ ns) : EvS (tMG tyF (rTupIx K) te (tCons ta tNil)) Γ (dI (ns.idxOf i : Nat)) := fun B H σ Q g q => h B H σ _ g fun v B1 H1 st r _ => by
  obtain ⟨a, o, vs, rfl, h1, c, d, r3⟩ := RpK.tup_fz r
  rw [r3.ints] at h1
  refine ⟨⟨a, o, _, rfl, st.bh _ _ h1, c, d⟩, ha B1 H1 σ _ (g.step st) fun w B2 H2 st2 r2 _ => ?_⟩
  exact ⟨a, ns, i, rfl, by rw [RpK.int_inv r2], .inl (.inr ⟨o, st2.bh _ _ (st2.bb _ _ h1)⟩), hm, q _ B2 H2 (st.trans st2) (RpK.int _) (.no rfl)⟩
end
end TG
set_option Elab.async false
set_option linter.all false
set_option maxRecDepth 100000
set_option maxHeartbeats 4000000
/-! SC: the defs' names by slots. -/
namespace TG
open PySem PySem.Spec PyProof.Rows L2
abbrev N_NoneClaimsinit : List Str := ["self", "parcel", "at"]
theorem sc_NoneClaimsinit : FnScope N_NoneClaimsinit ["self", "parcel", "at"] (defScope s_NoneClaimsinit) := ⟨rfl, rfl, rfl, by decide +kernel, rfl, by decide +kernel, by decide +kernel⟩
abbrev N_TwoClaiminit : List Str := ["self", "parcel", "at", "one", "other"]
theorem sc_TwoClaiminit : FnScope N_TwoClaiminit ["self", "parcel", "at", "one", "other"] (defScope s_TwoClaiminit) := ⟨rfl, rfl, rfl, by decide +kernel, rfl, by decide +kernel, by decide +kernel⟩
abbrev N_iswhole : List Str := ["thing"]
theorem sc_iswhole : FnScope N_iswhole ["thing"] (defScope s_iswhole) := ⟨rfl, rfl, rfl, by decide +kernel, rfl, by decide +kernel, by decide +kernel⟩
abbrev N_isname : List Str := ["thing", "sign"]
theorem sc_isname : FnScope N_isname ["thing"] (defScope s_isname) := ⟨rfl, rfl, rfl, by decide +kernel, rfl, by decide +kernel, by decide +kernel⟩
abbrev N_isprefix : List Str := ["thing", "part"]
theorem sc_isprefix : FnScope N_isprefix ["thing"] (defScope s_isprefix) := ⟨rfl, rfl, rfl, by decide +kernel, rfl, by decide +kernel, by decide +kernel⟩
abbrev N_isnumber : List Str := ["thing"]
theorem sc_isnumber : FnScope N_isnumber ["thing"] (defScope s_isnumber) := ⟨rfl, rfl, rfl, by decide +kernel, rfl, by decide +kernel, by decide +kernel⟩
abbrev N_iskind : List Str := ["thing"]
theorem sc_iskind : FnScope N_iskind ["thing"] (defScope s_iskind) := ⟨rfl, rfl, rfl, by decide +kernel, rfl, by decide +kernel, by decide +kernel⟩
abbrev N_kindsof : List Str := ["some", "known", "kind"]
theorem sc_kindsof : FnScope N_kindsof ["some"] (defScope s_kindsof) := ⟨rfl, rfl, rfl, by decide +kernel, rfl, by decide +kernel, by decide +kernel⟩
abbrev N_placeof : List Str := ["kinds", "part"]
theorem sc_placeof : FnScope N_placeof ["kinds", "part"] (defScope s_placeof) := ⟨rfl, rfl, rfl, by decide +kernel, rfl, by decide +kernel, by decide +kernel⟩
abbrev N_folded : List Str := ["kinds", "parts", "weights", "part", "place", "kind"]
theorem sc_folded : FnScope N_folded ["kinds", "parts"] (defScope s_folded) := ⟨rfl, rfl, rfl, by decide +kernel, rfl, by decide +kernel, by decide +kernel⟩
abbrev N_partsof : List Str := ["kinds", "weights", "parts", "k"]
theorem sc_partsof : FnScope N_partsof ["kinds", "weights"] (defScope s_partsof) := ⟨rfl, rfl, rfl, by decide +kernel, rfl, by decide +kernel, by decide +kernel⟩
abbrev N_lookof : List Str := ["weights", "weight", "steps", "look"]
theorem sc_lookof : FnScope N_lookof ["weights"] (defScope s_lookof) := ⟨rfl, rfl, rfl, by decide +kernel, rfl, by decide +kernel, by decide +kernel⟩
abbrev N_keyof : List Str := ["weights", "places", "k"]
theorem sc_keyof : FnScope N_keyof ["weights"] (defScope s_keyof) := ⟨rfl, rfl, rfl, by decide +kernel, rfl, by decide +kernel, by decide +kernel⟩
abbrev N_allrows : List Str := ["many", "rows", "k", "longer", "row", "number"]
theorem sc_allrows : FnScope N_allrows ["many"] (defScope s_allrows) := ⟨rfl, rfl, rfl, by decide +kernel, rfl, by decide +kernel, by decide +kernel⟩
abbrev N_alllooks : List Str := ["many", "looks", "row"]
theorem sc_alllooks : FnScope N_alllooks ["many"] (defScope s_alllooks) := ⟨rfl, rfl, rfl, by decide +kernel, rfl, by decide +kernel, by decide +kernel⟩
abbrev N_chiefof : List Str := ["look", "chief", "k"]
theorem sc_chiefof : FnScope N_chiefof ["look"] (defScope s_chiefof) := ⟨rfl, rfl, rfl, by decide +kernel, rfl, by decide +kernel, by decide +kernel⟩
abbrev N_aloneof : List Str := ["look", "chief", "alone", "k"]
theorem sc_aloneof : FnScope N_aloneof ["look"] (defScope s_aloneof) := ⟨rfl, rfl, rfl, by decide +kernel, rfl, by decide +kernel, by decide +kernel⟩
abbrev N_firstat : List Str := ["kinds", "look", "side", "name", "least", "k"]
theorem sc_firstat : FnScope N_firstat ["kinds", "look", "side", "name", "least"] (defScope s_firstat) := ⟨rfl, rfl, rfl, by decide +kernel, rfl, by decide +kernel, by decide +kernel⟩
abbrev N_rankof : List Str := ["kinds", "look", "kind", "k"]
theorem sc_rankof : FnScope N_rankof ["kinds", "look", "kind"] (defScope s_rankof) := ⟨rfl, rfl, rfl, by decide +kernel, rfl, by decide +kernel, by decide +kernel⟩
abbrev N_Anythingclaims : List Str := ["self", "kinds", "look"]
theorem sc_Anythingclaims : FnScope N_Anythingclaims ["self", "kinds", "look"] (defScope s_Anythingclaims) := ⟨rfl, rfl, rfl, by decide +kernel, rfl, by decide +kernel, by decide +kernel⟩
abbrev N_Madeinit : List Str := ["self", "stuff"]
theorem sc_Madeinit : FnScope N_Madeinit ["self", "stuff"] (defScope s_Madeinit) := ⟨rfl, rfl, rfl, by decide +kernel, rfl, by decide +kernel, by decide +kernel⟩
abbrev N_Madeclaims : List Str := ["self", "kinds", "look"]
theorem sc_Madeclaims : FnScope N_Madeclaims ["self", "kinds", "look"] (defScope s_Madeclaims) := ⟨rfl, rfl, rfl, by decide +kernel, rfl, by decide +kernel, by decide +kernel⟩
abbrev N_Usedinit : List Str := ["self", "use"]
theorem sc_Usedinit : FnScope N_Usedinit ["self", "use"] (defScope s_Usedinit) := ⟨rfl, rfl, rfl, by decide +kernel, rfl, by decide +kernel, by decide +kernel⟩
abbrev N_Usedclaims : List Str := ["self", "kinds", "look"]
theorem sc_Usedclaims : FnScope N_Usedclaims ["self", "kinds", "look"] (defScope s_Usedclaims) := ⟨rfl, rfl, rfl, by decide +kernel, rfl, by decide +kernel, by decide +kernel⟩
abbrev N_Chiefinit : List Str := ["self", "stuff"]
theorem sc_Chiefinit : FnScope N_Chiefinit ["self", "stuff"] (defScope s_Chiefinit) := ⟨rfl, rfl, rfl, by decide +kernel, rfl, by decide +kernel, by decide +kernel⟩
abbrev N_Chiefclaims : List Str := ["self", "kinds", "look"]
theorem sc_Chiefclaims : FnScope N_Chiefclaims ["self", "kinds", "look"] (defScope s_Chiefclaims) := ⟨rfl, rfl, rfl, by decide +kernel, rfl, by decide +kernel, by decide +kernel⟩
abbrev N_Overinit : List Str := ["self", "one", "other"]
theorem sc_Overinit : FnScope N_Overinit ["self", "one", "other"] (defScope s_Overinit) := ⟨rfl, rfl, rfl, by decide +kernel, rfl, by decide +kernel, by decide +kernel⟩
abbrev N_Overclaims : List Str := ["self", "kinds", "look"]
theorem sc_Overclaims : FnScope N_Overclaims ["self", "kinds", "look"] (defScope s_Overclaims) := ⟨rfl, rfl, rfl, by decide +kernel, rfl, by decide +kernel, by decide +kernel⟩
abbrev N_Bothinit : List Str := ["self", "one", "other"]
theorem sc_Bothinit : FnScope N_Bothinit ["self", "one", "other"] (defScope s_Bothinit) := ⟨rfl, rfl, rfl, by decide +kernel, rfl, by decide +kernel, by decide +kernel⟩
abbrev N_Bothclaims : List Str := ["self", "kinds", "look"]
theorem sc_Bothclaims : FnScope N_Bothclaims ["self", "kinds", "look"] (defScope s_Bothclaims) := ⟨rfl, rfl, rfl, by decide +kernel, rfl, by decide +kernel, by decide +kernel⟩
abbrev N_Eitherinit : List Str := ["self", "one", "other"]
theorem sc_Eitherinit : FnScope N_Eitherinit ["self", "one", "other"] (defScope s_Eitherinit) := ⟨rfl, rfl, rfl, by decide +kernel, rfl, by decide +kernel, by decide +kernel⟩
abbrev N_Eitherclaims : List Str := ["self", "kinds", "look"]
theorem sc_Eitherclaims : FnScope N_Eitherclaims ["self", "kinds", "look"] (defScope s_Eitherclaims) := ⟨rfl, rfl, rfl, by decide +kernel, rfl, by decide +kernel, by decide +kernel⟩
abbrev N_Butinit : List Str := ["self", "one", "other"]
theorem sc_Butinit : FnScope N_Butinit ["self", "one", "other"] (defScope s_Butinit) := ⟨rfl, rfl, rfl, by decide +kernel, rfl, by decide +kernel, by decide +kernel⟩
abbrev N_Butclaims : List Str := ["self", "kinds", "look"]
theorem sc_Butclaims : FnScope N_Butclaims ["self", "kinds", "look"] (defScope s_Butclaims) := ⟨rfl, rfl, rfl, by decide +kernel, rfl, by decide +kernel, by decide +kernel⟩
abbrev N_ispair : List Str := ["thing"]
theorem sc_ispair : FnScope N_ispair ["thing"] (defScope s_ispair) := ⟨rfl, rfl, rfl, by decide +kernel, rfl, by decide +kernel, by decide +kernel⟩
abbrev N_plainof : List Str := ["told", "word"]
theorem sc_plainof : FnScope N_plainof ["told"] (defScope s_plainof) := ⟨rfl, rfl, rfl, by decide +kernel, rfl, by decide +kernel, by decide +kernel⟩
abbrev N_madeat : List Str := ["told", "deep", "one", "other", "plain"]
theorem sc_madeat : FnScope N_madeat ["told", "deep"] (defScope s_madeat) := ⟨rfl, rfl, rfl, by decide +kernel, rfl, by decide +kernel, by decide +kernel⟩
abbrev N_noteof : List Str := ["told"]
theorem sc_noteof : FnScope N_noteof ["told"] (defScope s_noteof) := ⟨rfl, rfl, rfl, by decide +kernel, rfl, by decide +kernel, by decide +kernel⟩
abbrev N_isrow : List Str := ["row"]
theorem sc_isrow : FnScope N_isrow ["row"] (defScope s_isrow) := ⟨rfl, rfl, rfl, by decide +kernel, rfl, by decide +kernel, by decide +kernel⟩
abbrev N_rowsbynumber : List Str := ["rule", "rows", "known", "row", "number"]
theorem sc_rowsbynumber : FnScope N_rowsbynumber ["rule", "rows"] (defScope s_rowsbynumber) := ⟨rfl, rfl, rfl, by decide +kernel, rfl, by decide +kernel, by decide +kernel⟩
abbrev N_Treeinit : List Str := ["self", "kinds", "rule", "rows", "known", "number", "looks", "look"]
theorem sc_Treeinit : FnScope N_Treeinit ["self", "kinds", "rule", "rows"] (defScope s_Treeinit) := ⟨rfl, rfl, rfl, by decide +kernel, rfl, by decide +kernel, by decide +kernel⟩
abbrev N_Treekinds : List Str := ["self"]
theorem sc_Treekinds : FnScope N_Treekinds ["self"] (defScope s_Treekinds) := ⟨rfl, rfl, rfl, by decide +kernel, rfl, by decide +kernel, by decide +kernel⟩
abbrev N_Treebelow : List Str := ["self", "at", "number"]
theorem sc_Treebelow : FnScope N_Treebelow ["self", "at"] (defScope s_Treebelow) := ⟨rfl, rfl, rfl, by decide +kernel, rfl, by decide +kernel, by decide +kernel⟩
abbrev N_Treeruleat : List Str := ["self", "at"]
theorem sc_Treeruleat : FnScope N_Treeruleat ["self", "at"] (defScope s_Treeruleat) := ⟨rfl, rfl, rfl, by decide +kernel, rfl, by decide +kernel, by decide +kernel⟩
abbrev N_Treeclaims : List Str := ["self", "number", "look"]
theorem sc_Treeclaims : FnScope N_Treeclaims ["self", "number", "look"] (defScope s_Treeclaims) := ⟨rfl, rfl, rfl, by decide +kernel, rfl, by decide +kernel, by decide +kernel⟩
abbrev N_Treelooked : List Str := ["self", "number"]
theorem sc_Treelooked : FnScope N_Treelooked ["self", "number"] (defScope s_Treelooked) := ⟨rfl, rfl, rfl, by decide +kernel, rfl, by decide +kernel, by decide +kernel⟩
abbrev N_ladderof : List Str := ["tree", "at", "look", "ladder", "numbers", "alone", "k", "number", "off"]
theorem sc_ladderof : FnScope N_ladderof ["tree", "at", "look"] (defScope s_ladderof) := ⟨rfl, rfl, rfl, by decide +kernel, rfl, by decide +kernel, by decide +kernel⟩
abbrev N_picked : List Str := ["tree", "at", "look", "ladder", "numbers", "row"]
theorem sc_picked : FnScope N_picked ["tree", "at", "look"] (defScope s_picked) := ⟨rfl, rfl, rfl, by decide +kernel, rfl, by decide +kernel, by decide +kernel⟩
abbrev N_wayof : List Str := ["tree", "look", "way", "at"]
theorem sc_wayof : FnScope N_wayof ["tree", "look"] (defScope s_wayof) := ⟨rfl, rfl, rfl, by decide +kernel, rfl, by decide +kernel, by decide +kernel⟩
abbrev N_headingof : List Str := ["tree", "parts", "look"]
theorem sc_headingof : FnScope N_headingof ["tree", "parts"] (defScope s_headingof) := ⟨rfl, rfl, rfl, by decide +kernel, rfl, by decide +kernel, by decide +kernel⟩
abbrev N_auditof : List Str := ["tree", "rows", "look"]
theorem sc_auditof : FnScope N_auditof ["tree"] (defScope s_auditof) := ⟨rfl, rfl, rfl, by decide +kernel, rfl, by decide +kernel, by decide +kernel⟩
abbrev N_Lcellat : List Str := ["_law_script", "_law_k"]
theorem sc_Lcellat : FnScope N_Lcellat ["_law_script", "_law_k"] (defScope s_Lcellat) := ⟨rfl, rfl, rfl, by decide +kernel, rfl, by decide +kernel, by decide +kernel⟩
abbrev N_Lnames : List Str := ["_law_cell", "_law_more", "_law_letters", "_law_primes", "_law_some", "_law_k", "_law_signs", "_law_size", "_law_j", "_law_sign"]
theorem sc_Lnames : FnScope N_Lnames ["_law_cell", "_law_more"] (defScope s_Lnames) := ⟨rfl, rfl, rfl, by decide +kernel, rfl, by decide +kernel, by decide +kernel⟩
abbrev N_Lkinds : List Str := ["_law_script", "_law_cell", "_law_stuffs", "_law_uses", "_law_many", "_law_step", "_law_some", "_law_k", "_law_spot"]
theorem sc_Lkinds : FnScope N_Lkinds ["_law_script"] (defScope s_Lkinds) := ⟨rfl, rfl, rfl, by decide +kernel, rfl, by decide +kernel, by decide +kernel⟩
abbrev N_Lthere : List Str := ["_law_kinds_here", "_law_look", "_law_side", "_law_name", "_law_least", "_law_k"]
theorem sc_Lthere : FnScope N_Lthere ["_law_kinds_here", "_law_look", "_law_side", "_law_name", "_law_least"] (defScope s_Lthere) := ⟨rfl, rfl, rfl, by decide +kernel, rfl, by decide +kernel, by decide +kernel⟩
abbrev N_Lrank : List Str := ["_law_kinds_here", "_law_look", "_law_kind"]
theorem sc_Lrank : FnScope N_Lrank ["_law_kinds_here", "_law_look", "_law_kind"] (defScope s_Lrank) := ⟨rfl, rfl, rfl, by decide +kernel, rfl, by decide +kernel, by decide +kernel⟩
abbrev N_Lclaims : List Str := ["_law_note_here", "_law_kinds_here", "_law_look", "_law_word"]
theorem sc_Lclaims : FnScope N_Lclaims ["_law_note_here", "_law_kinds_here", "_law_look"] (defScope s_Lclaims) := ⟨rfl, rfl, rfl, by decide +kernel, rfl, by decide +kernel, by decide +kernel⟩
abbrev N_Lplain : List Str := ["_law_cell", "_law_kinds_here", "_law_one", "_law_other"]
theorem sc_Lplain : FnScope N_Lplain ["_law_cell", "_law_kinds_here"] (defScope s_Lplain) := ⟨rfl, rfl, rfl, by decide +kernel, rfl, by decide +kernel, by decide +kernel⟩
abbrev N_Lnote : List Str := ["_law_cell", "_law_kinds_here", "_law_deep", "_law_one", "_law_other"]
theorem sc_Lnote : FnScope N_Lnote ["_law_cell", "_law_kinds_here", "_law_deep"] (defScope s_Lnote) := ⟨rfl, rfl, rfl, by decide +kernel, rfl, by decide +kernel, by decide +kernel⟩
abbrev N_Lrows : List Str := ["_law_script", "_law_kinds_here", "_law_cell", "_law_rows_here", "_law_k", "_law_more", "_law_at", "_law_elder", "_law_note_here", "_law_number", "_law_row"]
theorem sc_Lrows : FnScope N_Lrows ["_law_script", "_law_kinds_here"] (defScope s_Lrows) := ⟨rfl, rfl, rfl, by decide +kernel, rfl, by decide +kernel, by decide +kernel⟩
abbrev N_Lturned : List Str := ["_law_rows_here", "_law_cell", "_law_at", "_law_row"]
theorem sc_Lturned : FnScope N_Lturned ["_law_rows_here", "_law_cell"] (defScope s_Lturned) := ⟨rfl, rfl, rfl, by decide +kernel, rfl, by decide +kernel, by decide +kernel⟩
abbrev N_Lbeneath : List Str := ["_law_rows_here", "_law_at", "_law_row"]
theorem sc_Lbeneath : FnScope N_Lbeneath ["_law_rows_here", "_law_at"] (defScope s_Lbeneath) := ⟨rfl, rfl, rfl, by decide +kernel, rfl, by decide +kernel, by decide +kernel⟩
abbrev N_Lrowof : List Str := ["_law_rows_here", "_law_number", "_law_row"]
theorem sc_Lrowof : FnScope N_Lrowof ["_law_rows_here", "_law_number"] (defScope s_Lrowof) := ⟨rfl, rfl, rfl, by decide +kernel, rfl, by decide +kernel, by decide +kernel⟩
abbrev N_Lmended : List Str := ["_law_rows_here", "_law_way", "_law_some", "_law_k", "_law_number", "_law_note_here", "_law_rule", "_law_beside", "_law_row"]
theorem sc_Lmended : FnScope N_Lmended ["_law_rows_here", "_law_way"] (defScope s_Lmended) := ⟨rfl, rfl, rfl, by decide +kernel, rfl, by decide +kernel, by decide +kernel⟩
abbrev N_Lparts : List Str := ["_law_script", "_law_kinds_here", "_law_cells", "_law_way", "_law_parts_here", "_law_cell", "_law_spot", "_law_weight"]
theorem sc_Lparts : FnScope N_Lparts ["_law_script", "_law_kinds_here"] (defScope s_Lparts) := ⟨rfl, rfl, rfl, by decide +kernel, rfl, by decide +kernel, by decide +kernel⟩
abbrev N_Lotherwise : List Str := ["_law_parts_here", "_law_cell", "_law_total", "_law_by", "_law_row", "_law_at", "_law_stuff", "_law_use", "_law_weight", "_law_first", "_law_part"]
theorem sc_Lotherwise : FnScope N_Lotherwise ["_law_parts_here", "_law_cell"] (defScope s_Lotherwise) := ⟨rfl, rfl, rfl, by decide +kernel, rfl, by decide +kernel, by decide +kernel⟩
abbrev N_Lcount : List Str := ["_law_note_here", "_law_kinds_here", "_law_looks", "_law_many", "_law_look"]
theorem sc_Lcount : FnScope N_Lcount ["_law_note_here", "_law_kinds_here", "_law_looks"] (defScope s_Lcount) := ⟨rfl, rfl, rfl, by decide +kernel, rfl, by decide +kernel, by decide +kernel⟩
abbrev N_Lalone : List Str := ["_law_look", "_law_chief", "_law_k"]
theorem sc_Lalone : FnScope N_Lalone ["_law_look"] (defScope s_Lalone) := ⟨rfl, rfl, rfl, by decide +kernel, rfl, by decide +kernel, by decide +kernel⟩
abbrev N_Lpick : List Str := ["_law_rows_here", "_law_kinds_here", "_law_rule", "_law_counts_here", "_law_at", "_law_look", "_law_numbers", "_law_number", "_law_some", "_law_parcel", "_law_best", "_law_off", "_law_near", "_law_k"]
theorem sc_Lpick : FnScope N_Lpick ["_law_rows_here", "_law_kinds_here", "_law_rule", "_law_counts_here", "_law_at", "_law_look"] (defScope s_Lpick) := ⟨rfl, rfl, rfl, by decide +kernel, rfl, by decide +kernel, by decide +kernel⟩
abbrev N_Lcounts : List Str := ["_law_rows_here", "_law_kinds_here", "_law_looks", "_law_counts_here", "_law_number", "_law_note_here", "_law_rule"]
theorem sc_Lcounts : FnScope N_Lcounts ["_law_rows_here", "_law_kinds_here"] (defScope s_Lcounts) := ⟨rfl, rfl, rfl, by decide +kernel, rfl, by decide +kernel, by decide +kernel⟩
abbrev N_Lend : List Str := ["_law_rows_here", "_law_kinds_here", "_law_root", "_law_counts_here", "_law_look", "_law_at", "_law_rule", "_law_found"]
theorem sc_Lend : FnScope N_Lend ["_law_rows_here", "_law_kinds_here", "_law_root", "_law_counts_here", "_law_look"] (defScope s_Lend) := ⟨rfl, rfl, rfl, by decide +kernel, rfl, by decide +kernel, by decide +kernel⟩
abbrev N_Laudit : List Str := ["_law_tree", "_law_found", "e"]
theorem sc_Laudit : FnScope N_Laudit ["_law_tree"] (defScope s_Laudit) := ⟨rfl, rfl, rfl, by decide +kernel, rfl, by decide +kernel, by decide +kernel⟩
abbrev N_Lheading : List Str := ["_law_tree", "_law_parts_here", "_law_found", "e"]
theorem sc_Lheading : FnScope N_Lheading ["_law_tree", "_law_parts_here"] (defScope s_Lheading) := ⟨rfl, rfl, rfl, by decide +kernel, rfl, by decide +kernel, by decide +kernel⟩
abbrev N_Lnogoods : List Str := ["_law_tree", "_law_parts_here", "e"]
theorem sc_Lnogoods : FnScope N_Lnogoods ["_law_tree", "_law_parts_here"] (defScope s_Lnogoods) := ⟨rfl, rfl, rfl, by decide +kernel, rfl, by decide +kernel, by decide +kernel⟩
abbrev N_Lstrange : List Str := ["_law_parts_here", "_law_kinds_here", "_law_cell", "_law_stuff", "_law_use", "_law_some", "_law_row"]
theorem sc_Lstrange : FnScope N_Lstrange ["_law_parts_here", "_law_kinds_here", "_law_cell"] (defScope s_Lstrange) := ⟨rfl, rfl, rfl, by decide +kernel, rfl, by decide +kernel, by decide +kernel⟩
abbrev N_Lweighed : List Str := ["_law_kinds_here", "_law_parts_here", "_law_row", "_law_stuff", "_law_use", "_law_weight", "_law_at", "_law_kind"]
theorem sc_Lweighed : FnScope N_Lweighed ["_law_kinds_here", "_law_parts_here"] (defScope s_Lweighed) := ⟨rfl, rfl, rfl, by decide +kernel, rfl, by decide +kernel, by decide +kernel⟩
abbrev N_Lthrough : List Str := ["_law_rows_here", "_law_kinds_here", "_law_root", "_law_counts_here", "_law_some", "_law_look", "_law_found"]
theorem sc_Lthrough : FnScope N_Lthrough ["_law_rows_here", "_law_kinds_here", "_law_root", "_law_counts_here"] (defScope s_Lthrough) := ⟨rfl, rfl, rfl, by decide +kernel, rfl, by decide +kernel, by decide +kernel⟩
abbrev N_law : List Str := ["_law_script", "_law_kinds_here", "_law_cell", "_law_rows_here", "_law_root", "_law_tree", "_law_counts_here", "_law_found", "_law_every", "_law_parts_here", "_law_due", "_law_handed", "_law_great", "_law_wrong"]
theorem sc_law : FnScope N_law ["_law_script"] (defScope s_law) := ⟨rfl, rfl, rfl, by decide +kernel, rfl, by decide +kernel, by decide +kernel⟩
end TG
set_option Elab.async false
set_option linter.all false
set_option maxRecDepth 100000
set_option maxHeartbeats 4000000
/-! M0: the program's things in plain Lean: kinds, looks, notes, rows. -/
namespace TG
open PySem PySem.Spec PyProof.Rows L2
def lettersS : Str := "abcdefghijklmnopqrstuvwxyz"
def nameB (x : Str) : Bool := decide (1 ≤ x.cps.size) && decide (x.cps.size ≤ 8) && x.cps.toList.all fun c => decide (c ∈ lettersS.cps.toList)
abbrev Knd := Str × Str
def kD (k : Knd) : PyData := .tuple [.str k.1, .str k.2]
def ksL (ks : List Knd) : List PyData := ks.map kD
def kndB (k : Knd) : Bool := nameB k.1 && nameB k.2
def iL (l : List Int) : List PyData := l.map .int
/-- the rising list of distinct numbers -/
def ins1 (x : Int) : List Int → List Int
  | [] => [x]
  | y :: l => if x < y then x :: y :: l else if x = y then y :: l else y :: ins1 x l
def rise : List Int → List Int
  | [] => []
  | x :: l => ins1 x (rise l)
def lookOf (ws : List Int) : List Int := ws.map fun x => if 0 < x then (((rise (ws.filter fun x => decide (0 < x))).idxOf x : Nat) : Int) + 1 else 0
def placesOf (ws : List Int) : List Int := ((List.range ws.length).filter fun k => decide (0 < ws.getD k 0)).map fun (k : Nat) => (k : Int)
def keyD (ws : List Int) : PyData := .tuple [.int (placesOf ws).length, .tuple (iL (placesOf ws)), .tuple (iL ((placesOf ws).map fun k => ws.getD k.toNat 0))]
def rowsStep (m : Nat) (rows : List (List Int)) : List (List Int) := rows.flatMap fun r => (List.range (m + 1)).map fun (n : Nat) => r ++ [(n : Int)]
def rowsN (m : Nat) : Nat → List (List Int)
  | 0 => [[]]
  | k + 1 => rowsStep m (rowsN m k)
def allRows (m : Nat) : List (List Int) := rowsN m m
def maxL : List Int → Int
  | [] => 0
  | x :: l => l.foldl max x
/-- the place of the first greatest -/
def chiefN (look : List Int) : Nat := (List.range look.length).foldl (fun c k => if look.getD c 0 < look.getD k 0 then k else c) 0
def aloneL (look : List Int) : List Int := (List.range look.length).map fun k => if k = chiefN look then 1 else 0
def nam (side : Bool) (k : Knd) : Str := if side then k.2 else k.1
def firstN (ks : List Knd) (look : List Int) (side : Bool) (name : Str) (least : Int) : Option Nat := (List.range ks.length).find? fun k => decide (least ≤ look.getD k 0) && decide (nam side (ks.getD k ("", "")) = name)
def rankN (ks : List Knd) (look : List Int) (kd : Knd) : Int := match (List.range ks.length).find? fun k => decide (ks.getD k ("", "") = kd) with
  | some k => look.getD k 0
  | none => 0
def partD (k : Knd) (n : Int) : PyData := .tuple [.str k.1, .str k.2, .int n]
def partsL (ks : List Knd) (ws : List Int) : List PyData := ((List.range ks.length).filter fun k => decide (0 < ws.getD k 0)).map fun k => partD (ks.getD k ("", "")) (ws.getD k 0)
inductive Nt where
  | any
  | made (s : Str)
  | used (s : Str)
  | chief (s : Str)
  | over (a b : Knd)
  | both (a b : Nt)
  | either (a b : Nt)
  | but (a b : Nt)
deriving DecidableEq
def Nt.enc : Nt → PyData
  | .any => .tuple [.str "any"]
  | .made s => .tuple [.str "made", .str s]
  | .used s => .tuple [.str "used", .str s]
  | .chief s => .tuple [.str "chief", .str s]
  | .over a b => .tuple [.str "over", kD a, kD b]
  | .both a b => .tuple [.str "both", a.enc, b.enc]
  | .either a b => .tuple [.str "either", a.enc, b.enc]
  | .but a b => .tuple [.str "but", a.enc, b.enc]
def Nt.dep : Nt → Nat
  | .both a b => max a.dep b.dep + 1
  | .either a b => max a.dep b.dep + 1
  | .but a b => max a.dep b.dep + 1
  | _ => 1
def Nt.ok : Nt → Bool
  | .any => true
  | .made s => nameB s
  | .used s => nameB s
  | .chief s => nameB s
  | .over a b => kndB a && kndB b
  | .both a b => a.ok && b.ok
  | .either a b => a.ok && b.ok
  | .but a b => a.ok && b.ok
def Nt.cl (ks : List Knd) (look : List Int) : Nt → Bool
  | .any => true
  | .made s => (firstN ks look false s 1).isSome
  | .used s => (firstN ks look true s 1).isSome
  | .chief s => (firstN ks look false s (maxL look)).isSome
  | .over a b => decide (rankN ks look b < rankN ks look a)
  | .both a b => a.cl ks look && b.cl ks look
  | .either a b => a.cl ks look || b.cl ks look
  | .but a b => a.cl ks look && !b.cl ks look
def ruleS (one : Bool) : Str := if one then "one" else "near"
structure Rw where
  num : List Int
  note : Nt
  one : Bool
deriving DecidableEq
def Rw.enc (r : Rw) : PyData := .tuple [encN r.num, r.note.enc, .str (ruleS r.one)]
end TG
set_option Elab.async false
set_option linter.all false
set_option maxRecDepth 100000
set_option maxHeartbeats 4000000
/-! M1: data: shape, equality, order's premises. -/
namespace TG
open PySem PySem.Spec PyProof.Rows L2
def Gd (n : Nat) (d : PyData) : Prop := d.canLay0 = true ∧ d.depth ≤ n
theorem Gd.mono {m n : Nat} {d : PyData} (h : Gd m d) (e : m ≤ n) : Gd n d := ⟨h.1, Nat.le_trans h.2 e⟩
theorem Gd.shaped {n : Nat} {d : PyData} (h : Gd n d) (e : n ≤ 64) : SeqAt.shaped d = true := by
  unfold SeqAt.shaped
  rw [h.1, decide_eq_true (Nat.le_trans h.2 e)]; rfl
theorem gd_int (i : Int) : Gd 0 (.int i) := ⟨by simp [PyData.canLay0], by simp [PyData.depth]⟩
theorem gd_str {i : Str} (h : PyData.strOk i = true) : Gd 0 (.str i) := ⟨by simp [PyData.canLay0, h], by simp [PyData.depth]⟩
theorem gd_none : Gd 0 .none := ⟨by simp [PyData.canLay0], by simp [PyData.depth]⟩
theorem gd_bool (b : Bool) : Gd 0 (.bool b) := ⟨by simp [PyData.canLay0], by simp [PyData.depth]⟩
theorem gd_all {n : Nat} : ∀ {l : List PyData}, (∀ d ∈ l, Gd n d) → PyData.canLayAll0 l = true ∧ PyData.depthAll l ≤ n
  | [], _ => ⟨by simp [PyData.canLayAll0], by simp [PyData.depthAll]⟩
  | d :: l, h => by
    obtain ⟨h1, h2⟩ := gd_all (l := l) fun x hx => h x (List.mem_cons_of_mem _ hx)
    obtain ⟨h3, h4⟩ := h d (List.mem_cons_self ..)
    refine ⟨by simp [PyData.canLayAll0, h1, h3], ?_⟩
    simp only [PyData.depthAll]
    omega
theorem gd_tup {n : Nat} {l : List PyData} (h : ∀ d ∈ l, Gd n d) : Gd (n + 1) (.tuple l) := by
  obtain ⟨h1, h2⟩ := gd_all h
  refine ⟨by simpa [PyData.canLay0] using h1, ?_⟩
  simp only [PyData.depth]
  omega
theorem gd_lst {n : Nat} {l : List PyData} (h : ∀ d ∈ l, Gd n d) : Gd (n + 1) (.list l) := by
  obtain ⟨h1, h2⟩ := gd_all h
  refine ⟨by simpa [PyData.canLay0] using h1, ?_⟩
  simp only [PyData.depth]
  omega
theorem gd_iL {l : List Int} : ∀ d ∈ iL l, Gd 0 d := fun d h => by
  obtain ⟨i, _, rfl⟩ := List.mem_map.mp h
  exact gd_int i
theorem gd_N (l : List Int) : Gd 1 (encN l) := gd_tup (n := 0) gd_iL
abbrev kOk (k : Knd) : Prop := PyData.strOk k.1 = true ∧ PyData.strOk k.2 = true
theorem gd_k {k : Knd} (hk : kOk k) : Gd 1 (kD k) := gd_tup (n := 0) fun d h => by
  simp only [List.mem_cons, List.not_mem_nil, or_false] at h
  rcases h with rfl | rfl
  · exact gd_str hk.1
  · exact gd_str hk.2
theorem gd_ks {ks : List Knd} (hk : ∀ k ∈ ks, kOk k) : Gd 2 (.list (ksL ks)) := gd_lst (n := 1) fun d h => by
  obtain ⟨k, hm, rfl⟩ := List.mem_map.mp h
  exact gd_k (hk k hm)
theorem eqv_int (a b : Int) : PyData.eqv (.int a) (.int b) = decide (a = b) := by
  simp only [PyData.eqv]
  by_cases h : a = b <;> simp [h]
theorem eqv_str (a b : Str) : PyData.eqv (.str a) (.str b) = decide (a = b) := by
  simp only [PyData.eqv]
  by_cases h : a = b <;> simp [h]
theorem eqvAll_ints : ∀ a b : List Int, PyData.eqvAll (iL a) (iL b) = decide (a = b)
  | [], [] => by simp [iL, PyData.eqvAll]
  | [], b :: l => by simp [iL, PyData.eqvAll]
  | a :: l, [] => by simp [iL, PyData.eqvAll]
  | a :: l, b :: m => by
    have ih := eqvAll_ints l m
    unfold iL at ih ⊢
    rw [List.map_cons, List.map_cons, PyData.eqvAll, ih, eqv_int]
    by_cases h : a = b <;> by_cases h2 : l = m <;> simp [h, h2]
theorem eqv_N (a b : List Int) : PyData.eqv (.tuple (iL a)) (.tuple (iL b)) = decide (a = b) := by
  rw [PyData.eqv, eqvAll_ints]
theorem eqv_k (a b : Knd) : PyData.eqv (kD a) (kD b) = decide (a = b) := by
  obtain ⟨a1, a2⟩ := a
  obtain ⟨b1, b2⟩ := b
  simp only [kD, PyData.eqv, PyData.eqvAll, eqv_str]
  by_cases h : a1 = b1 <;> by_cases h2 : a2 = b2 <;> simp [h, h2]
theorem any_ks (ks : List Knd) (k : Knd) : ((ksL ks).any fun z => PyData.eqv z (kD k)) = decide (k ∈ ks) := by
  unfold ksL
  rw [List.any_map]
  induction ks with
  | nil => simp
  | cons x l ih =>
    rw [List.any_cons, ih]
    simp only [Function.comp, eqv_k]
    by_cases h : x = k
    · simp [h]
    · have h' : ¬ k = x := fun e => h e.symm
      simp [h, h']
theorem alikeAll_ints (a b : List Int) : PySem.W.alikeAll (iL a) (iL b) = true := PySem.W.alike_ints a b
theorem alike_N (a b : List Int) : PySem.W.alike (encN a) (encN b) = true := by
  simp only [encN, PySem.W.alike]
  exact alikeAll_ints a b
theorem alike_key (a b : List Int) : PySem.W.alike (keyD a) (keyD b) = true := by
  simp [keyD, PySem.W.alike, PySem.W.alikeAll, alikeAll_ints]
theorem lettersS_le : ∀ c ∈ lettersS.cps.toList, c < 0x110000 := by decide +kernel
theorem ok_name {x : Str} (h : nameB x = true) : PyData.strOk x = true := by
  unfold nameB at h
  simp only [Bool.and_eq_true] at h
  unfold PyData.strOk
  rw [← Array.all_toList, List.all_eq_true]
  intro c hc
  exact decide_eq_true (lettersS_le c (of_decide_eq_true (List.all_eq_true.mp h.2 c hc)))
theorem ok_knd {k : Knd} (h : kndB k = true) : kOk k := by
  unfold kndB at h
  simp only [Bool.and_eq_true] at h
  exact ⟨ok_name h.1, ok_name h.2⟩
theorem ins1_mem {x y : Int} : ∀ {l : List Int}, y ∈ ins1 x l ↔ y = x ∨ y ∈ l
  | [] => by simp [ins1]
  | z :: l => by
    unfold ins1
    split
    · simp
    · split
      · next h => subst h; simp
      · rw [List.mem_cons, ins1_mem, List.mem_cons]
        constructor
        · rintro (h | h | h)
          · exact .inr (.inl h)
          · exact .inl h
          · exact .inr (.inr h)
        · rintro (h | h | h)
          · exact .inr (.inl h)
          · exact .inl h
          · exact .inr (.inr h)
theorem rise_mem {y : Int} : ∀ {l : List Int}, y ∈ rise l ↔ y ∈ l
  | [] => by simp [rise]
  | x :: l => by rw [rise, ins1_mem, rise_mem, List.mem_cons]
theorem ins1_sorted {x : Int} : ∀ {l : List Int}, l.Pairwise (· < ·) → (ins1 x l).Pairwise (· < ·)
  | [], _ => by simp [ins1]
  | z :: l, h => by
    rw [List.pairwise_cons] at h
    unfold ins1
    split
    · next hx =>
      rw [List.pairwise_cons, List.pairwise_cons]
      refine ⟨fun y hy => ?_, h.1, h.2⟩
      rcases List.mem_cons.mp hy with rfl | hy
      · exact hx
      · exact Int.lt_trans hx (h.1 y hy)
    · split
      · rw [List.pairwise_cons]; exact h
      · next h1 h2 =>
        rw [List.pairwise_cons]
        refine ⟨fun y hy => ?_, ins1_sorted h.2⟩
        rcases ins1_mem.mp hy with rfl | hy
        · omega
        · exact h.1 y hy
theorem rise_sorted : ∀ {l : List Int}, (rise l).Pairwise (· < ·)
  | [] => by simp [rise]
  | x :: l => ins1_sorted rise_sorted
theorem rise_is (l : List Int) : Rising l (rise l) := ⟨rise_sorted, fun _ => rise_mem⟩
theorem rising_one : ∀ {a b : List Int}, a.Pairwise (· < ·) → b.Pairwise (· < ·) → (∀ x, x ∈ a ↔ x ∈ b) → a = b
  | [], [], _, _, _ => rfl
  | [], y :: b, _, _, h => by have := (h y).mpr (List.mem_cons_self ..); cases this
  | x :: a, [], _, _, h => by have := (h x).mp (List.mem_cons_self ..); cases this
  | x :: a, y :: b, ha, hb, h => by
    rw [List.pairwise_cons] at ha hb
    have e : x = y := by
      have h1 := (h x).mp (List.mem_cons_self ..)
      have h2 := (h y).mpr (List.mem_cons_self ..)
      rcases List.mem_cons.mp h1 with h1 | h1
      · exact h1
      · rcases List.mem_cons.mp h2 with h2 | h2
        · exact h2.symm
        · have := ha.1 y h2; have := hb.1 x h1; omega
    subst e
    rw [rising_one ha.2 hb.2 fun z => ?_]
    have hz := h z
    rw [List.mem_cons, List.mem_cons] at hz
    constructor
    · intro m
      rcases hz.mp (.inr m) with rfl | m'
      · exact absurd (ha.1 _ m) (Int.lt_irrefl _)
      · exact m'
    · intro m
      rcases hz.mpr (.inr m) with rfl | m'
      · exact absurd (hb.1 _ m) (Int.lt_irrefl _)
      · exact m'
theorem rise_one (l : List Int) (ks : List Int) (h : Rising l ks) : ks = rise l := rising_one h.1 rise_sorted fun x => by rw [h.2 x, rise_mem]
end TG
set_option Elab.async false
set_option linter.all false
set_option maxRecDepth 100000
set_option maxHeartbeats 4000000
/-! W0: further rules: constants, isinstance, text. -/
namespace TG
open PySem PySem.Spec PyProof.Rows L2
section
variable {X : Cx} {x : Str} {pos : Pos}
theorem pe_gI {i : Int} (hg : Gl X x) (hm : ∃ t, X.mg x = some (.int i t)) (hd : (x == ("__debug__" : Str)) = false := by decide) : PE X (.Name x pos) (tC (.int i)) := let ⟨t, e⟩ := hm; pe_glob hg e ⟨t, rfl⟩ hd
theorem pe_gS {i : Str} (hg : Gl X x) (hm : ∃ t, X.mg x = some (.str i t)) (hd : (x == ("__debug__" : Str)) = false := by decide) : PE X (.Name x pos) (tC (.str i)) := let ⟨t, e⟩ := hm; pe_glob hg e ⟨t, rfl⟩ hd
theorem pe_ty {n : String} (hg : Gl X x) (hm : X.mg x = none) (hv : bootBuiltins x = some (.type n)) (hn : x ≠ "__name__" := by decide) (hd : (x == ("__debug__" : Str)) = false := by decide) : PE X (.Name x pos) (tC (.ty n)) := pe_bltn hg hm hv rfl hn hd
end
def tyN : PyData → String
  | .none => "NoneType"
  | .bool _ => "bool"
  | .int _ => "int"
  | .str _ => "str"
  | .list _ => "list"
  | .tuple _ => "tuple"
  | _ => "dict"
def isIntD : PyData → Bool
  | .int _ => true
  | .bool _ => true
  | _ => false
def isBlD : PyData → Bool
  | .bool _ => true
  | _ => false
def isStrD : PyData → Bool
  | .str _ => true
  | _ => false
def isTupD : PyData → Bool
  | .tuple _ => true
  | _ => false
def isLstD : PyData → Bool
  | .list _ => true
  | _ => false
def isWholeD : PyData → Bool
  | .int _ => true
  | _ => false
theorem RpK.tyx {κ : TK} {K : PySem.W.Frag} {H : Hp} {v : V} {d : PyData} (h : RpK κ H v d) : TyX K H v (.type (tyN d)) := by
  cases h with
  | non => exact .base .non
  | bl b => exact .base (.bl b)
  | int i => exact .base (.int i)
  | str x => exact .base (.str x)
  | lst h _ => exact .base (.lst h)
  | tup _ h _ => exact .base (.tup h)
  | tupF _ h _ _ _ => exact .fTuple h
section
variable {K : PySem.W.Frag} {Γ : Cxt} {ta tb tc te tl : TE} {t u : TT} {s : Sl} {x y z : PyData} {B0 H0 : Hp} {ts tu : TS} {E : DE} {κ κ' : TK}
theorem RpK.up {B H : Hp} {v : V} {d : PyData} (h : RpK κ B v d) (e : Gr B H) : RpK κ H v d := RpK.mono e h
theorem ev_isi {n : String} {b : Bool} (h : EvS te Γ (.d x κ)) (hk : kitB (tyN x) n = some b) : EvS (tCB (rIsi K) (tCons te (tCons (tC (.ty n)) tNil))) Γ (dB b) := fun B H σ Q g q =>
  h B H σ _ g fun v B1 H1 st r _ => ⟨v, .ty n, _, _, b, rfl, .ty n, (RpK.up r st.bh).tyx, kit_ty hk, q _ B1 H1 st (RpK.bl b) (.no rfl)⟩
theorem ev_isIntD (h : EvS te Γ (.d x κ)) : EvS (tCB (rIsi K) (tCons te (tCons (tC (.ty "int")) tNil))) Γ (dB (isIntD x)) := ev_isi h (by
  have h1 : kitB "NoneType" "int" = some (isIntD .none) := by decide +kernel
  have h2 : kitB "bool" "int" = some (isIntD (.bool true)) := by decide +kernel
  have h3 : kitB "int" "int" = some (isIntD (.int 0)) := by decide +kernel
  have h4 : kitB "str" "int" = some (isIntD (.str "")) := by decide +kernel
  have h5 : kitB "list" "int" = some (isIntD (.list [])) := by decide +kernel
  have h6 : kitB "tuple" "int" = some (isIntD (.tuple [])) := by decide +kernel
  have h7 : kitB "dict" "int" = some (isIntD (.dict [])) := by decide +kernel
  cases x <;> assumption)
theorem ev_isBlD (h : EvS te Γ (.d x κ)) : EvS (tCB (rIsi K) (tCons te (tCons (tC (.ty "bool")) tNil))) Γ (dB (isBlD x)) := ev_isi h (by
  have h1 : kitB "NoneType" "bool" = some (isBlD .none) := by decide +kernel
  have h2 : kitB "bool" "bool" = some (isBlD (.bool true)) := by decide +kernel
  have h3 : kitB "int" "bool" = some (isBlD (.int 0)) := by decide +kernel
  have h4 : kitB "str" "bool" = some (isBlD (.str "")) := by decide +kernel
  have h5 : kitB "list" "bool" = some (isBlD (.list [])) := by decide +kernel
  have h6 : kitB "tuple" "bool" = some (isBlD (.tuple [])) := by decide +kernel
  have h7 : kitB "dict" "bool" = some (isBlD (.dict [])) := by decide +kernel
  cases x <;> assumption)
theorem ev_isStrD (h : EvS te Γ (.d x κ)) : EvS (tCB (rIsi K) (tCons te (tCons (tC (.ty "str")) tNil))) Γ (dB (isStrD x)) := ev_isi h (by
  have h1 : kitB "NoneType" "str" = some (isStrD .none) := by decide +kernel
  have h2 : kitB "bool" "str" = some (isStrD (.bool true)) := by decide +kernel
  have h3 : kitB "int" "str" = some (isStrD (.int 0)) := by decide +kernel
  have h4 : kitB "str" "str" = some (isStrD (.str "")) := by decide +kernel
  have h5 : kitB "list" "str" = some (isStrD (.list [])) := by decide +kernel
  have h6 : kitB "tuple" "str" = some (isStrD (.tuple [])) := by decide +kernel
  have h7 : kitB "dict" "str" = some (isStrD (.dict [])) := by decide +kernel
  cases x <;> assumption)
theorem ev_isTupD (h : EvS te Γ (.d x κ)) : EvS (tCB (rIsi K) (tCons te (tCons (tC (.ty "tuple")) tNil))) Γ (dB (isTupD x)) := ev_isi h (by
  have h1 : kitB "NoneType" "tuple" = some (isTupD .none) := by decide +kernel
  have h2 : kitB "bool" "tuple" = some (isTupD (.bool true)) := by decide +kernel
  have h3 : kitB "int" "tuple" = some (isTupD (.int 0)) := by decide +kernel
  have h4 : kitB "str" "tuple" = some (isTupD (.str "")) := by decide +kernel
  have h5 : kitB "list" "tuple" = some (isTupD (.list [])) := by decide +kernel
  have h6 : kitB "tuple" "tuple" = some (isTupD (.tuple [])) := by decide +kernel
  have h7 : kitB "dict" "tuple" = some (isTupD (.dict [])) := by decide +kernel
  cases x <;> assumption)
theorem ev_isLstD (h : EvS te Γ (.d x κ)) : EvS (tCB (rIsi K) (tCons te (tCons (tC (.ty "list")) tNil))) Γ (dB (isLstD x)) := ev_isi h (by
  have h1 : kitB "NoneType" "list" = some (isLstD .none) := by decide +kernel
  have h2 : kitB "bool" "list" = some (isLstD (.bool true)) := by decide +kernel
  have h3 : kitB "int" "list" = some (isLstD (.int 0)) := by decide +kernel
  have h4 : kitB "str" "list" = some (isLstD (.str "")) := by decide +kernel
  have h5 : kitB "list" "list" = some (isLstD (.list [])) := by decide +kernel
  have h6 : kitB "tuple" "list" = some (isLstD (.tuple [])) := by decide +kernel
  have h7 : kitB "dict" "list" = some (isLstD (.dict [])) := by decide +kernel
  cases x <;> assumption)
/-- sign in text -/
theorem ev_notInS {c : Nat} {z : Str} (ha : EvS ta Γ (dS ⟨#[c]⟩)) (hb : EvS tb Γ (dS z)) : EvS (tOp (fun x y H Q => ∃ (c : Nat) (z : Str), x = .str ⟨#[c]⟩ ∧ y = .str z ∧ Q (.bl (!decide (c ∈ z.cps.toList))) H) ta tb) Γ (dB (!decide (c ∈ z.cps.toList))) :=
  ev_op2 ha hb rfl rfl fun B H v w Q e r1 r2 q => ⟨c, z, RpK.str_inv r1, RpK.str_inv r2, q.now e (RpK.bl _) rfl⟩
theorem for_str {x : Str} {g : L2.TG} {tb : TS} {D : Ends} {σ : L2.St} {H : Hp} (Pv : Nat → L2.St → Hp → Prop) (h0 : Pv 0 σ H)
    (hs : ∀ i c σ H, x.cps[i]? = some c → Pv i σ H → g (.str ⟨#[c]⟩) σ H fun σ2 H2 => tb { D with nx := Pv (i + 1), ct := Pv (i + 1), bk := D.nx } σ2 H2) (hd : ∀ σ H, Pv x.cps.size σ H → D.nx σ H) :
    ∃ W : Nat → Nat → L2.St → Hp → Prop, (∃ m, W 0 m σ H) ∧ ∀ i m σ H, W i m σ H →
      ((Its x).stop i H ∧ D.nx σ H) ∨ ((Its x).go i H ∧ ∃ N : L2.St → Hp → Prop, (∀ σ' H', N σ' H' → ∃ m', m' < m ∧ W (i + 1) m' σ' H') ∧ ∀ z H', (Its x).yld i H z H' → g z σ H' fun σ2 H2 => tb { D with nx := N, ct := N, bk := D.nx } σ2 H2) := by
  refine ⟨fun i m σ H => m = x.cps.size - i ∧ i ≤ x.cps.size ∧ Pv i σ H, ⟨x.cps.size, by simp, Nat.zero_le _, h0⟩, ?_⟩
  rintro i m σ H ⟨rfl, hi, p⟩
  by_cases hlt : i < x.cps.size
  · refine .inr ⟨hlt, Pv (i + 1), fun σ' H' p' => ⟨x.cps.size - (i + 1), by omega, rfl, hlt, p'⟩, fun z H' y => ?_⟩
    obtain ⟨e, c, ec, ez⟩ := y
    subst e ez
    exact hs i c σ _ ec p
  · have e : i = x.cps.size := by omega
    subst e
    exact .inl ⟨Nat.le_refl _, hd σ H p⟩
theorem ws_forS {ds : Str} {j : Nat} (h : EvS tl Γ (dS ds)) (I : Nat → Cxt → Prop) (h0 : I 0 Γ)
    (hs : ∀ i c Γ', ds.cps[i]? = some c → I i Γ' → WS B0 H0 ts (Γ'.set j (some (dS ⟨#[c]⟩))) { E with nx := I (i + 1), ct := I (i + 1), bk := E.nx }) (hd : ∀ Γ', I ds.cps.size Γ' → E.nx Γ') : WS B0 H0 (tFor (iStr tl) (gName j) ts) Γ E := fun B H σ D gr k1 k2 k3 k4 =>
  h B H σ _ gr.g fun v B1 H1 st r _ => by
    refine ⟨ds, RpK.str_inv r, for_str (fun i σ' H' => ∃ Γ' B', I i Γ' ∧ SR B0 H0 B' H' σ' Γ' ∧ Gr B1 B') ⟨Γ, B1, h0, gr.step st, .rfl⟩ ?_ ?_⟩
    · rintro i c σ' H' hi ⟨Γ', B', hI, g', e'⟩
      show ts _ (σ'.set j (some (.str ⟨#[c]⟩))) H'
      refine hs i c Γ' hi hI B' H' _ _ (g'.set0 (s := dS ⟨#[c]⟩) (RpK.str _) rfl) (fun Γ'' B'' H'' σ'' q g'' e'' => ⟨Γ'', B'', q, g'', e'.trans e''⟩) k2 (fun Γ'' B'' H'' σ'' q g'' e'' => k1 Γ'' B'' H'' σ'' q g'' (st.bb.trans (e'.trans e''))) fun Γ'' B'' H'' σ'' q g'' e'' => ⟨Γ'', B'', q, g'', e'.trans e''⟩
    · rintro σ' H' ⟨Γ', B', hI, g', e'⟩
      exact k1 Γ' B' H' σ' (hd Γ' hI) g' (st.bb.trans e')
/-- x in a tuple of texts -/
theorem strs_flat : ∀ l : List Str, (l.map V.str).all flatV = true
  | [] => rfl
  | x :: l => by rw [List.map_cons, List.all_cons, strs_flat l]; rfl
theorem inV_strs (x : Str) : ∀ l : List Str, inV (.str x) (l.map V.str) = decide (x ∈ l)
  | [] => by simp [inV]
  | y :: l => by
    have ih := inV_strs x l
    unfold inV at ih ⊢
    rw [List.map_cons, List.any_cons, ih]
    by_cases h : y = x
    · subst h; simp [eqV]
    · simp [eqV, h, Ne.symm h]
theorem ev_inSS {x : Str} {l : List Str} (ha : EvS ta Γ (dS x)) (hb : EvS tb Γ (.d (.tuple (l.map PyData.str)) κ)) : EvS (tOp (rIn K false) ta tb) Γ (dB (decide (x ∈ l))) :=
  ev_op2 ha hb rfl rfl fun B H v w Q e r1 r2 q => by
    obtain ⟨a, vs, rfl, h1, h2⟩ := RpK.tup_inv r2
    rw [h2.strs] at h1
    refine ⟨a, _, rfl, .inr (Or.inl (rd_mono e h1)), by rw [RpK.str_inv r1]; rfl, strs_flat l, ?_⟩
    rw [RpK.str_inv r1, inV_strs]
    exact q.now e (RpK.bl _) rfl
theorem ev_notInSS {x : Str} {l : List Str} (ha : EvS ta Γ (dS x)) (hb : EvS tb Γ (.d (.tuple (l.map PyData.str)) κ)) : EvS (tOp (rIn K true) ta tb) Γ (dB (!decide (x ∈ l))) :=
  ev_op2 ha hb rfl rfl fun B H v w Q e r1 r2 q => by
    obtain ⟨a, vs, rfl, h1, h2⟩ := RpK.tup_inv r2
    rw [h2.strs] at h1
    refine ⟨a, _, rfl, .inr (Or.inl (rd_mono e h1)), by rw [RpK.str_inv r1]; rfl, strs_flat l, ?_⟩
    rw [RpK.str_inv r1, inV_strs]
    exact q.now e (RpK.bl _) rfl
/-- raise of an own class without own __init__ -/
theorem wx_raise {W : XK} {C : Addr} (k : ∀ cls d B H, Step B0 H0 B H → XcR H0 B H ⟨C, none⟩ cls d → W cls d H) : WS B0 H0 (fun _ σ H => W (.ref C) none H) Γ E := fun B H σ D g _ _ _ _ => k _ _ B H g.st ⟨rfl, rfl⟩
/-- l.index(x) -/
theorem ev_indexD {x d : PyData} {ds : List PyData} {j : Nat} (h : EvS te Γ (.d (.list ds) κ)) (ha : EvS ta Γ (.d x κ')) (sx : SeqAt.shaped x = true) (sl : SeqAt.shaped (.list ds) = true) (hj : ds[j]? = some d) (hd : PyData.eqv d x = true) (hn : ∀ (m : Nat) (z : PyData), m < j → ds[m]? = some z → PyData.eqv z x = false) :
    EvS (tBM K "list" (rIndexD K) te (tCons ta tNil)) Γ (dI (j : Nat)) := fun B H σ Q g q => h B H σ _ g fun v B1 H1 st r _ => by
  obtain ⟨a, vs, rfl, h1, h2⟩ := RpK.lst_inv r
  refine ⟨Or.inl ⟨rfl, vs, SqL.of (st.bh _ _ h1)⟩, ha B1 H1 σ _ (g.step st) fun w B2 H2 st2 r2 _ => ?_⟩
  exact ⟨a, w, x, ds, j, d, rfl, rfl, RpK.dp (RpK.mono (st2.bb.trans st2.bh) (RpK.lst h1 h2)), RpK.dp (RpK.mono st2.bh r2), sl, sx, hj, hd, hn, q _ B2 H2 (st.trans st2) (RpK.int _) (.no rfl)⟩
end
end TG
set_option Elab.async false
set_option linter.all false
set_option maxRecDepth 100000
set_option maxHeartbeats 4000000
/-! W1: names, numbers, kinds. -/
namespace TG
open PySem PySem.Spec PyProof.Rows L2
variable {P : Program} {w : World} {K : KF} {mg : Str → Option Value} {base : Heap}
theorem hu65_of {k : Nat} {A : Around} (hr : Room k A) : A.units + 65 < cLine := by have := hr.un; omega
theorem atI_nat {α : Type} {l : List α} {k : Nat} {d : α} (h : l[k]? = some d) : atI l (k : Int) = some d := by
  unfold atI
  rw [ixN_ofNat (List.getElem?_eq_some_iff.mp h).1]
  exact h
theorem ks_get {ks : List Knd} {k : Nat} (h : k < ks.length) : (ksL ks)[k]? = some (kD (ks.getD k ("", ""))) := by
  simp [ksL, h]
theorem i_get {l : List Int} {k : Nat} (h : k < l.length) : (iL l)[k]? = some (.int (l.getD k 0)) := by
  simp [iL, h]
theorem ksL_len {ks : List Knd} : (ksL ks).length = ks.length := by simp [ksL]
theorem iL_len {l : List Int} : (iL l).length = l.length := by simp [iL]
theorem ok_iswhole (T : Txt K mg) : FnOk P w K mg base CX0 1 127 (fdOf K 127) ["thing"] (spD (fun ss s => ∃ d, ss = [.d d] ∧ s = dB (isWholeD d)) noX) := by
  refine Fun.okD (f_iswhole T) sc_iswhole (fun ss s ⟨d, h, _⟩ => by rw [h]; rfl) fun cdv A outer h H E hr ss s ⟨d, hs, hv⟩ => ?_
  subst hs hv
  refine ⟨_, (pss_one (ps_ret (pe_and (pe_callB call_isi rfl (z_isinstance T) (by decide +kernel) (pa_cons (pv 0) (pa_cons (pe_ty (n := "int") rfl (z_int T) (by decide +kernel)) pa_nil))) (pe_one (pe_not (pe_callB call_isi rfl (z_isinstance T) (by decide +kernel) (pa_cons (pv 0) (pa_cons (pe_ty (n := "bool") rfl (z_bool T) (by decide +kernel)) pa_nil)))))))), fun B0 H0 => ?_⟩
  refine ws_ret (s := dB (isWholeD d)) ?_ rfl
  refine (ev_andV (ev_isIntD (ev_var rfl)) (fun _ => ev_notV (ev_isBlD (ev_var rfl)))).is ?_
  cases d <;> rfl
theorem ok_isname (T : Txt K mg) : FnOk P w K mg base CX0 1 134 (fdOf K 134) ["thing"] (spD (fun ss s => ∃ x : Str, ss = [dS x] ∧ x.length ≤ 100000 ∧ s = dB (nameB x)) noX) := by
  refine Fun.okD (f_isname T) sc_isname (fun ss s ⟨d, h, _⟩ => by rw [h]; rfl) fun cdv A outer h H E hr ss s ⟨x, hs, hl, hv⟩ => ?_
  subst hs hv
  refine ⟨_, (pss_cons (ps_if (PW.pt (pw_or (pt_not (pt_val (pe_callB call_isi rfl (z_isinstance T) (by decide +kernel) (pa_cons (pv 0) (pa_cons (pe_ty (n := "str") rfl (z_str T) (by decide +kernel)) pa_nil))))) (pw_or1 (pt_not (pt_chain op_le op_le pe_int (pe_callB call_len rfl (z_len T) PySem.boot_len (pa_cons (pv 0) pa_nil)) (pe_gI rfl (i_SIGNS T))))))) (pss_one (ps_ret pe_bl)) pss_nil)
      (pss_cons (ps_for PassesOwn.never rfl (pi_str (pv 0)) (pg_name (i := 1) sc_isname.nd rfl (Or.inl rfl))
      (pss_one (ps_if (pt_cmpR op_notIn_sign (pv 1) (pe_gS rfl (x_LETTERS T)) rfl) (pss_one (ps_ret pe_bl)) pss_nil)))
      (pss_one (ps_ret pe_bl)))), fun B0 H0 => ?_⟩
  have hx : (x.length : Nat) = x.cps.size := rfl
  refine ws_seq (ws_if (et_or (et_not (et_B (ev_isStrD (ev_var rfl)))) fun _ => et_not (et_test (ev_chainLe ev_int (ev_lenS (ev_var rfl) hl) ev_int))) (fun hb => ws_ret (s := dB false) ev_bl ?_) fun hb => ws_next ?_)
  · simp [isStrD, hx] at hb
    show dB false = dB (nameB x)
    unfold nameB
    rcases hb with hb | hb
    · have : ¬ 1 ≤ x.cps.size := by omega
      rw [decide_eq_false this]; rfl
    · have : ¬ x.cps.size ≤ 8 := by omega
      rw [decide_eq_false this, Bool.and_false, Bool.false_and]
  · simp [isStrD, hx] at hb
    refine ws_seq (ws_forS (ev_var rfl) (fun i Γ' => (∃ o, Γ' = [some (dS x), o]) ∧ ∀ j c, j < i → x.cps[j]? = some c → c ∈ lettersS.cps.toList) ⟨⟨none, rfl⟩, fun _ _ h => absurd h (Nat.not_lt_zero _)⟩ ?_ ?_)
    · rintro i c Γ' hc ⟨⟨o, rfl⟩, hI⟩
      refine ws_if (et_test (ev_notInS (ev_var rfl) ev_str)) (fun hb2 => ws_ret (s := dB false) ev_bl ?_) fun hb2 => ws_next ⟨⟨_, rfl⟩, fun j c' hj hc' => ?_⟩
      · show dB false = dB (nameB x)
        have hm : c ∈ x.cps.toList := List.mem_of_getElem? (i := i) (by simpa using hc)
        have hn : x.cps.toList.all (fun c => decide (c ∈ lettersS.cps.toList)) = false := by
          rw [List.all_eq_false]
          change (!decide (c ∈ lettersS.cps.toList)) = true at hb2
          exact ⟨c, hm, by rw [Bool.not_eq_true'] at hb2; rw [hb2]; decide⟩
        unfold nameB
        rw [hn, Bool.and_false]
      · rcases Nat.lt_succ_iff_lt_or_eq.mp hj with hj | rfl
        · exact hI j c' hj hc'
        · rw [hc] at hc'
          cases hc'
          change (!decide (c ∈ lettersS.cps.toList)) = false at hb2
          rw [Bool.not_eq_false'] at hb2
          exact of_decide_eq_true hb2
    · rintro Γ' ⟨⟨o, rfl⟩, hI⟩
      refine ws_ret (s := dB true) ev_bl ?_
      show dB true = dB (nameB x)
      have hn : x.cps.toList.all (fun c => decide (c ∈ lettersS.cps.toList)) = true := by
        rw [List.all_eq_true]
        intro c hc
        obtain ⟨j, hj⟩ := List.getElem?_of_mem hc
        have hj2 : j < x.cps.size := by simpa using (List.getElem?_eq_some_iff.mp hj).1
        exact decide_eq_true (hI j c hj2 (by simpa using hj))
      have h1 : 1 ≤ x.cps.size := by omega
      have h2 : x.cps.size ≤ 8 := by omega
      unfold nameB
      rw [hn, decide_eq_true h1, decide_eq_true h2]; rfl
theorem ok_isprefix (T : Txt K mg) : FnOk P w K mg base CX0 2 141 (fdOf K 141) ["thing"] (spD (fun ss s => ∃ n : List Int, ss = [.d (encN n)] ∧ n.length ≤ 4 ∧ (∀ x ∈ n, 1 ≤ x ∧ x ≤ 99) ∧ s = dB true) noX) := by
  refine Fun.okD (f_isprefix T) sc_isprefix (fun ss s ⟨d, h, _⟩ => by rw [h]; rfl) fun cdv A outer h H E hr ss s ⟨n, hs, hl, hx, hv⟩ => ?_
  subst hs hv
  refine ⟨_, (pss_cons (ps_if (PW.pt (pw_or (pt_not (pt_val (pe_callB call_isi rfl (z_isinstance T) (by decide +kernel) (pa_cons (pv 0) (pa_cons (pe_ty (n := "tuple") rfl (z_tuple T) (by decide +kernel)) pa_nil))))) (pw_or1 (pt_cmpR op_gt (pe_callB call_len rfl (z_len T) PySem.boot_len (pa_cons (pv 0) pa_nil)) (pe_gI rfl (i_PARTS T)) (nomark _))))) (pss_one (ps_ret pe_bl)) pss_nil)
      (pss_cons (ps_for PassesOwn.never rfl (pi_tup (pv 0)) (pg_name (i := 1) sc_isprefix.nd rfl (Or.inl rfl))
      (pss_one (ps_if (PW.pt (pw_or (pt_not (pt_val (pe_call (ok_iswhole T) (hr.mono (by decide)) rfl (g_iswhole T) (f_iswhole T).kp (b_iswhole T) .nil pass0 (pa_cons (pv 1) pa_nil)))) (pw_or1 (pt_not (pt_chain op_le op_le pe_int (pv 1) (pe_gI rfl (i_MOST T))))))) (pss_one (ps_ret pe_bl)) pss_nil)))
      (pss_one (ps_ret pe_bl)))), fun B0 H0 => ?_⟩
  refine ws_seq (ws_if (et_or (et_not (et_B (ev_isTupD (ev_var rfl)))) fun _ => et_test (ev_gt (ev_lenT (ds := iL n) (ev_var rfl)) ev_int)) (fun hb => ?_) fun hb => ws_next ?_)
  · simp [isTupD, encN, iL] at hb
    omega
  · refine ws_seq (ws_forT (ds := iL n) (f := fun x Γ => Γ.set 1 (some (.d x .pl))) (ev_var rfl) (fun x _ => tg_name) (fun i Γ' => ∃ o, Γ' = [some (.d (encN n)), o]) ⟨none, rfl⟩ ?_ ?_)
    · rintro i x Γ' hc ⟨o, rfl⟩
      obtain ⟨y, hy, rfl⟩ := List.mem_map.mp (List.mem_of_getElem? hc)
      have := hx y hy
      refine ws_if (et_or (et_not (et_B (ev_call (ea_cons (ev_var rfl) ea_nil) ⟨_, rfl, rfl⟩))) fun _ => et_not (et_test (ev_chainLe ev_int (ev_var rfl) ev_int))) (fun hb => ?_) fun hb => ws_next ⟨_, rfl⟩
      simp [isWholeD] at hb
      omega
    · rintro Γ' ⟨o, rfl⟩
      exact ws_ret (s := dB true) ev_bl rfl
theorem ok_isnumber (T : Txt K mg) : FnOk P w K mg base CX0 3 148 (fdOf K 148) ["thing"] (spD (fun ss s => ∃ n : List Int, ss = [.d (encN n)] ∧ n ≠ [] ∧ n.length ≤ 4 ∧ (∀ x ∈ n, 1 ≤ x ∧ x ≤ 99) ∧ s = dB true) noX) := by
  refine Fun.okD (f_isnumber T) sc_isnumber (fun ss s ⟨d, h, _⟩ => by rw [h]; rfl) fun cdv A outer h H E hr ss s ⟨n, hs, hn, hl, hx, hv⟩ => ?_
  subst hs hv
  refine ⟨_, (pss_one (ps_ret (pe_and (pe_call (ok_isprefix T) (hr.mono (by decide)) rfl (g_isprefix T) (f_isprefix T).kp (b_isprefix T) .nil pass0 (pa_cons (pv 0) pa_nil)) (pe_one (pe_cmpR op_gt (pe_callB call_len rfl (z_len T) PySem.boot_len (pa_cons (pv 0) pa_nil)) pe_int (nomark _)))))), fun B0 H0 => ws_ret ?_ rfl⟩
  refine (ev_andV (ev_call (ea_cons (ev_var rfl) ea_nil) ⟨n, rfl, hl, hx, rfl⟩) fun _ => ev_gt (ev_lenT (ds := iL n) (ev_var rfl)) ev_int).is ?_
  have : 0 < n.length := List.length_pos_iff.mpr hn
  simp [iL]
  omega
theorem kD_get0 {k : Knd} : atI [PyData.str k.1, .str k.2] 0 = some (.str k.1) := rfl
theorem ok_iskind (T : Txt K mg) : FnOk P w K mg base CX0 2 155 (fdOf K 155) ["thing"] (spD (fun ss s => ∃ (κ : TK) (k : Knd), ss = [.d (kD k) κ] ∧ k.1.length ≤ 100000 ∧ k.2.length ≤ 100000 ∧ s = dB (kndB k)) noX) := by
  refine Fun.okD (f_iskind T) sc_iskind (fun ss s ⟨_, d, h, _⟩ => by rw [h]; rfl) fun cdv A outer h H E hr ss s ⟨κ, k, hs, h1, h2, hv⟩ => ?_
  subst hs hv
  refine ⟨_, (pss_one (ps_ret (pe_and (pe_callB call_isi rfl (z_isinstance T) (by decide +kernel) (pa_cons (pv 0) (pa_cons (pe_ty (n := "tuple") rfl (z_tuple T) (by decide +kernel)) pa_nil))) (pe_and (pe_cmpR op_eq (pe_callB call_len rfl (z_len T) PySem.boot_len (pa_cons (pv 0) pa_nil)) pe_int (nomark _)) (pe_and (pe_call (ok_isname T) (hr.mono (by decide)) rfl (g_isname T) (f_isname T).kp (b_isname T) .nil pass0 (pa_cons (pe_ix ix_tup (pv 0) pe_int (fun _ _ => rfl)) pa_nil)) (pe_one (pe_call (ok_isname T) (hr.mono (by decide)) rfl (g_isname T) (f_isname T).kp (b_isname T) .nil pass0 (pa_cons (pe_ix ix_tup (pv 0) pe_int (fun _ _ => rfl)) pa_nil)))))))), fun B0 H0 => ws_ret ?_ rfl⟩
  refine (ev_andV (ev_isTupD (ev_var rfl)) fun _ => ev_andV (ev_eqI (ev_lenT (ds := [.str k.1, .str k.2]) (ev_var rfl)) ev_int) fun _ => ev_andV (ev_call (ea_cons (ev_sc (ev_ixT (ds := [.str k.1, .str k.2]) (ev_var rfl) ev_int rfl)) ea_nil) ⟨k.1, rfl, h1, rfl⟩) fun _ =>
    ev_call (ea_cons (ev_sc (ev_ixT (ds := [.str k.1, .str k.2]) (ev_var rfl) ev_int rfl)) ea_nil) ⟨k.2, rfl, h2, rfl⟩).is ?_
  simp [isTupD, kD, kndB]
theorem ok_ispair (T : Txt K mg) : FnOk P w K mg base CX0 2 572 (fdOf K 572) ["thing"] (spD (fun ss s => ∃ (κ : TK) (k : Knd), ss = [.d (kD k) κ] ∧ k.1.length ≤ 100000 ∧ k.2.length ≤ 100000 ∧ s = dB (kndB k)) noX) := by
  refine Fun.okD (f_ispair T) sc_ispair (fun ss s ⟨_, d, h, _⟩ => by rw [h]; rfl) fun cdv A outer h H E hr ss s ⟨κ, k, hs, h1, h2, hv⟩ => ?_
  subst hs hv
  refine ⟨_, (pss_one (ps_ret (pe_and (pe_callB call_isi rfl (z_isinstance T) (by decide +kernel) (pa_cons (pv 0) (pa_cons (pe_ty (n := "tuple") rfl (z_tuple T) (by decide +kernel)) pa_nil))) (pe_and (pe_cmpR op_eq (pe_callB call_len rfl (z_len T) PySem.boot_len (pa_cons (pv 0) pa_nil)) pe_int (nomark _)) (pe_and (pe_call (ok_isname T) (hr.mono (by decide)) rfl (g_isname T) (f_isname T).kp (b_isname T) .nil pass0 (pa_cons (pe_ix ix_tup (pv 0) pe_int (fun _ _ => rfl)) pa_nil)) (pe_one (pe_call (ok_isname T) (hr.mono (by decide)) rfl (g_isname T) (f_isname T).kp (b_isname T) .nil pass0 (pa_cons (pe_ix ix_tup (pv 0) pe_int (fun _ _ => rfl)) pa_nil)))))))), fun B0 H0 => ws_ret ?_ rfl⟩
  refine (ev_andV (ev_isTupD (ev_var rfl)) fun _ => ev_andV (ev_eqI (ev_lenT (ds := [.str k.1, .str k.2]) (ev_var rfl)) ev_int) fun _ => ev_andV (ev_call (ea_cons (ev_sc (ev_ixT (ds := [.str k.1, .str k.2]) (ev_var rfl) ev_int rfl)) ea_nil) ⟨k.1, rfl, h1, rfl⟩) fun _ =>
    ev_call (ea_cons (ev_sc (ev_ixT (ds := [.str k.1, .str k.2]) (ev_var rfl) ev_int rfl)) ea_nil) ⟨k.2, rfl, h2, rfl⟩).is ?_
  simp [isTupD, kD, kndB]
theorem filt_step {α β : Type} (p : Nat → Bool) (g : Nat → β) (i : Nat) : ((List.range (i + 1)).filter p).map g = ((List.range i).filter p).map g ++ if p i then [g i] else [] := by
  rw [List.range_succ, List.filter_append, List.map_append]
  congr 1
  by_cases h : p i <;> simp [h]
theorem ok_partsof (T : Txt K mg) : FnOk P w K mg base CX0 1 181 (fdOf K 181) ["kinds", "weights"] (spD (fun ss s => ∃ (κ : TK) (ks : List Knd) (ws : List Int), ss = [dL (ksL ks), .d (.tuple (iL ws)) κ] ∧ ws.length = ks.length ∧ ks.length ≤ 1000 ∧ s = .own (partsL ks ws)) noX) := by
  refine Fun.okD (f_partsof T) sc_partsof (fun ss s ⟨_, _, _, h, _⟩ => by rw [h]; rfl) fun cdv A outer h H E hr ss s ⟨κ, ks, ws, hs, hl, hk, hv⟩ => ?_
  subst hs hv
  refine ⟨_, (pss_cons (ps_set (i := 2) sc_partsof.nd rfl (Or.inl rfl) (pe_lst pa_nil))
      (pss_cons (ps_for PassesOwn.never rfl (pi_range1 rfl (z_range T) (pa_cons (pe_callB call_len rfl (z_len T) PySem.boot_len (pa_cons (pv 0) pa_nil)) pa_nil)) (pg_name (i := 3) sc_partsof.nd rfl (Or.inl rfl))
      (pss_one (ps_if (pt_cmpR op_gt (pe_ix ix_tup (pv 1) (pv 3) (fun _ _ => rfl)) pe_int (nomark _)) (pss_one (ps_expr (pe_bm PySem.F.plainAttrs_list PySem.F.slot_list_append PySem.F.type_list_append mt_append (pv 2) (pa_cons (pe_tup (pa_cons (pe_ix ix_tup (pe_ix ix_list (pv 0) (pv 3) (fun _ _ => rfl)) pe_int (fun _ _ => rfl)) (pa_cons (pe_ix ix_tup (pe_ix ix_list (pv 0) (pv 3) (fun _ _ => rfl)) pe_int (fun _ _ => rfl)) (pa_cons (pe_ix ix_tup (pv 1) (pv 3) (fun _ _ => rfl)) pa_nil)))) pa_nil)))) pss_nil)))
      (pss_one (ps_ret (pv 2))))), fun B0 H0 => ?_⟩
  refine ws_seq (ws_asg (ev_lst (ds := []) (κ := .pl) ea_nil (Nat.zero_le _)) ?_)
  refine ws_seq (ws_forR (n := ks.length) (ea_cons ((ev_lenL (ds := ksL ks) (ev_var rfl)).is (by rw [ksL_len])) ea_nil) (by omega)
    (fun i Γ' => ∃ o, Γ' = [some (dL (ksL ks)), some (.d (.tuple (iL ws)) κ), some (.own (((List.range i).filter fun k => decide (0 < ws.getD k 0)).map fun k => partD (ks.getD k ("", "")) (ws.getD k 0))), o]) ⟨none, rfl⟩ ?_ ?_)
  · rintro i Γ' hi ⟨o, rfl⟩
    have hw := ev_sc (κ' := .pl) (ev_ixT (K := K) (ds := iL ws) (Γ := [some (dL (ksL ks)), some (.d (.tuple (iL ws)) κ), some (.own (((List.range i).filter fun k => decide (0 < ws.getD k 0)).map fun k => partD (ks.getD k ("", "")) (ws.getD k 0))), some (dI (i : Int))]) (ta := tVar 1) (tb := tVar 3) (ev_var rfl) (ev_var rfl) (atI_nat (i_get (by omega))))
    have hk := ev_ixL (K := K) (κ := .pl) (ds := ksL ks) (Γ := [some (dL (ksL ks)), some (.d (.tuple (iL ws)) κ), some (.own (((List.range i).filter fun k => decide (0 < ws.getD k 0)).map fun k => partD (ks.getD k ("", "")) (ws.getD k 0))), some (dI (i : Int))]) (ta := tVar 0) (tb := tVar 3) (ev_var rfl) (ev_var rfl) (atI_nat (ks_get hi))
    refine ws_if (et_test (ev_gt hw ev_int)) (fun hb => ws_app (κ := .pl) rfl (ev_tup (κ := .pl) (ds := [.str (ks.getD i ("", "")).1, .str (ks.getD i ("", "")).2, .int (ws.getD i 0)]) (ea_cons (ev_ixT hk ev_int rfl) (ea_cons (ev_ixT hk ev_int rfl) (ea_cons hw ea_nil))) (by simp)) ?_ ⟨some (dI (i : Int)), ?_⟩) fun hb => ws_next ⟨some (dI (i : Int)), ?_⟩
    · have := List.length_filter_le (fun k => decide (0 < ws.getD k 0)) (List.range i)
      rw [List.length_range] at this
      rw [List.length_map]
      omega
    · have e := filt_step (α := Nat) (fun k => decide (0 < ws.getD k 0)) (fun k => partD (ks.getD k ("", "")) (ws.getD k 0)) i
      rw [hb, if_pos rfl] at e
      rw [e]
      rfl
    · have e := filt_step (α := Nat) (fun k => decide (0 < ws.getD k 0)) (fun k => partD (ks.getD k ("", "")) (ws.getD k 0)) i
      rw [hb] at e
      simp only [Bool.false_eq_true, if_false, List.append_nil] at e
      rw [e]
      rfl
  · rintro Γ' ⟨o, rfl⟩
    exact ws_retOwn rfl rfl
end TG
set_option Elab.async false
set_option linter.all false
set_option maxRecDepth 100000
set_option maxHeartbeats 4000000
/-! W2: looks. -/
namespace TG
open PySem PySem.Spec PyProof.Rows L2
variable {P : Program} {w : World} {K : KF} {mg : Str → Option Value} {base : Heap}
def look1 (ws : List Int) (x : Int) : Int := if 0 < x then (((rise (ws.filter fun x => decide (0 < x))).idxOf x : Nat) : Int) + 1 else 0
theorem filt_ints (ws : List Int) : (iL ws).filter (fun d => match d with | .int i => decide (0 < i) | _ => false) = (ws.filter fun x => decide (0 < x)).map PyData.int := by
  unfold iL
  rw [List.filter_map]
  rfl
theorem idx_int {l : List Int} {y : Int} (h : y ∈ l) : (iL l)[l.idxOf y]? = some (.int y) := by
  unfold iL
  rw [List.getElem?_map]
  have h1 := List.idxOf_lt_length_of_mem h
  rw [List.getElem?_eq_getElem h1, List.getElem_idxOf h1]
  rfl
theorem idx_not {l : List Int} {y : Int} : ∀ (m : Nat) (z : PyData), m < l.idxOf y → (iL l)[m]? = some z → PyData.eqv z (.int y) = false := fun m z hm hz => by
  unfold iL at hz
  rw [List.getElem?_map] at hz
  cases q : l[m]? with
  | none => rw [q] at hz; cases hz
  | some v =>
    rw [q] at hz
    cases hz
    rw [eqv_int]
    obtain ⟨hl, e⟩ := List.getElem?_eq_some_iff.mp q
    refine decide_eq_false fun e2 => ?_
    have hb := List.not_of_lt_findIdx (p := (· == y)) (xs := l) (i := m) hm
    subst e
    simp [e2] at hb
theorem ok_lookof (T : Txt K mg) : FnOk P w K mg base CX0 1 186 (fdOf K 186) ["weights"] (spD (fun ss s => ∃ (κ : TK) (ws : List Int), (ss = [.d (.list (iL ws)) κ] ∨ ss = [.d (.tuple (iL ws)) κ]) ∧ ws.length < 60 ∧ s = .d (encN (lookOf ws)) .fz) noX) := by
  refine Fun.okD (f_lookof T) sc_lookof (fun ss s ⟨_, d, h, _⟩ => by rcases h with h | h <;> rw [h] <;> rfl) fun cdv A outer h H E hr ss s ⟨κ, ws, hs, hl, hv⟩ => ?_
  have hu65 := hu65_of hr
  subst hv
  rcases hs with hs | hs
  · subst hs
    refine ⟨_, (pss_cons (ps_set (i := 2) sc_lookof.nd rfl (Or.inl rfl) (pe_callB (cr_sortedSet rfl) rfl (z_sorted T) (by decide +kernel) (pa_cons (pe_callTy (cr_setL rfl) rfl (z_set T) (by decide +kernel) (pa_cons (pe_lc (own := [("weight", 1)]) rfl sc_lookof.nd (pi_list (pv 0)) (blkOk_by (own := [("weight", 1)]) (N := N_lookof) (sc := defScope s_lookof) (by decide +kernel)) (fun _ _ _ _ _ => pg_name (i := 1) sc_lookof.nd rfl (Or.inl rfl)) (fun _ _ _ _ _ => (pts_one (pt_cmpR op_gt (pv 1) pe_int (nomark _)))) (fun _ _ _ _ _ => (pv 1))) pa_nil)) pa_nil)))
      (pss_cons (ps_set (i := 3) sc_lookof.nd rfl (Or.inl rfl) (pe_lst pa_nil))
      (pss_cons (ps_for PassesOwn.never rfl (pi_list (pv 0)) (pg_name (i := 1) sc_lookof.nd rfl (Or.inl rfl))
      (pss_one (ps_if (pt_cmpR op_gt (pv 1) pe_int (nomark _)) (pss_one (ps_expr (pe_bm PySem.F.plainAttrs_list PySem.F.slot_list_append PySem.F.type_list_append mt_append (pv 3) (pa_cons (pe_op op_add (pe_bm PySem.F.plainAttrs_list PySem.F.slot_list_index PySem.F.type_list_index (mt_indexD hu65) (pv 2) (pa_cons (pv 1) pa_nil)) pe_int) pa_nil)))) (pss_one (ps_expr (pe_bm PySem.F.plainAttrs_list PySem.F.slot_list_append PySem.F.type_list_append mt_append (pv 3) (pa_cons pe_int pa_nil)))))))
      (pss_one (ps_ret (pe_callTy call_tupOfF rfl (z_tuple T) (by decide +kernel) (pa_cons (pv 3) pa_nil))))))), fun B0 H0 => ?_⟩
    have hlen : (iL ws).length = ws.length := by simp [iL]
    refine ws_seq (ws_asg (s := dL (iL (rise (ws.filter fun x => decide (0 < x))))) (ev_fz (ev_sortSet (κ := .pl) (ns := ws.filter fun x => decide (0 < x)) ((ev_fz (ev_lcL (κ' := .pl) (ds := iL ws) (fun d => match d with | .int i => decide (0 < i) | _ => false) id (ev_var rfl) (List.mem_cons_self ..) (by omega) (fun d hd => ?_) (fun d hd _ => ?_))).is ?_) ?_ _ (rise_is _) (rise_one _) rfl)) ?_)
    · obtain ⟨i, _, rfl⟩ := List.mem_map.mp hd
      exact et_test (ev_gt (ev_sc (ev_var rfl)) ev_int)
    · obtain ⟨i, _, rfl⟩ := List.mem_map.mp hd
      exact ev_sc (ev_var rfl)
    · rw [List.map_id]
      exact congrArg (fun l => dL l) (filt_ints ws)
    · have := List.length_filter_le (fun x => decide (0 < x)) ws
      omega
    refine ws_seq (ws_asg (ev_lst (ds := []) (κ := .pl) ea_nil (Nat.zero_le _)) ?_)
    refine ws_seq (ws_forL (ds := iL ws) (κ := κ) (f := fun x Γ => Γ.set 1 (some (.d x κ))) (ev_var rfl) (fun x _ => tg_name) (fun i Γ' => ∃ o, Γ' = [some (.d (.list (iL ws)) κ), o, some (dL (iL (rise (ws.filter fun x => decide (0 < x))))), some (.own (iL ((ws.take i).map (look1 ws))))]) ⟨none, rfl⟩ ?_ ?_)
    · rintro i x Γ' hx ⟨o, rfl⟩
      obtain ⟨y, hy, rfl⟩ : ∃ y, ws[i]? = some y ∧ PyData.int y = x := by
        unfold iL at hx
        rw [List.getElem?_map] at hx
        cases q : ws[i]? with
        | none => rw [q] at hx; cases hx
        | some y => rw [q] at hx; exact ⟨y, rfl, Option.some.inj hx⟩
      have hi := (List.getElem?_eq_some_iff.mp hy).1
      have e : iL ((ws.take (i + 1)).map (look1 ws)) = iL ((ws.take i).map (look1 ws)) ++ [.int (look1 ws y)] := by
        rw [List.take_add_one, hy]
        simp [iL]
      have hlt : (iL ((ws.take i).map (look1 ws))).length < 100000 := by
        have := List.length_take_le i ws
        simp only [iL, List.length_map]
        omega
      refine ws_if (et_test (ev_gt (ev_sc (ev_var rfl)) ev_int)) (fun hb => ws_app (κ := .pl) rfl (ev_add (ev_indexD (κ := .pl) (κ' := κ) (ds := iL (rise (ws.filter fun x => decide (0 < x)))) (x := .int y) (d := .int y) (j := (rise (ws.filter fun x => decide (0 < x))).idxOf y) (ev_var rfl) (ev_var rfl) ((gd_int y).shaped (by decide)) ((gd_lst gd_iL).shaped (by decide)) ?_ ?_ ?_) ev_int) hlt ⟨some (.d (.int y) κ), ?_⟩) fun hb => ws_app (κ := .pl) rfl ev_int hlt ⟨some (.d (.int y) κ), ?_⟩
      · have hm : y ∈ rise (ws.filter fun x => decide (0 < x)) := rise_mem.mpr (List.mem_filter.mpr ⟨List.mem_of_getElem? hy, hb⟩)
        exact idx_int hm
      · rw [eqv_int]; simp
      · exact idx_not
      · rw [e]
        have : look1 ws y = ((rise (ws.filter fun x => decide (0 < x))).idxOf y : Nat) + 1 := by unfold look1; rw [if_pos (of_decide_eq_true hb)]
        rw [this]; rfl
      · rw [e]
        have : look1 ws y = 0 := by unfold look1; rw [if_neg (of_decide_eq_false hb)]
        rw [this]; rfl
    · rintro Γ' ⟨o, rfl⟩
      rw [hlen, List.take_length]
      refine ws_freeze (i := 3) (κ := .pl) rfl (ws_ret (ev_tupOfF (κ := .pl) (ev_var rfl) fun d hd => ?_) rfl)
      obtain ⟨i, _, rfl⟩ := List.mem_map.mp hd
      rfl
  · subst hs
    refine ⟨_, (pss_cons (ps_set (i := 2) sc_lookof.nd rfl (Or.inl rfl) (pe_callB (cr_sortedSet rfl) rfl (z_sorted T) (by decide +kernel) (pa_cons (pe_callTy (cr_setL rfl) rfl (z_set T) (by decide +kernel) (pa_cons (pe_lc (own := [("weight", 1)]) rfl sc_lookof.nd (pi_tup (pv 0)) (blkOk_by (own := [("weight", 1)]) (N := N_lookof) (sc := defScope s_lookof) (by decide +kernel)) (fun _ _ _ _ _ => pg_name (i := 1) sc_lookof.nd rfl (Or.inl rfl)) (fun _ _ _ _ _ => (pts_one (pt_cmpR op_gt (pv 1) pe_int (nomark _)))) (fun _ _ _ _ _ => (pv 1))) pa_nil)) pa_nil)))
      (pss_cons (ps_set (i := 3) sc_lookof.nd rfl (Or.inl rfl) (pe_lst pa_nil))
      (pss_cons (ps_for PassesOwn.never rfl (pi_tup (pv 0)) (pg_name (i := 1) sc_lookof.nd rfl (Or.inl rfl))
      (pss_one (ps_if (pt_cmpR op_gt (pv 1) pe_int (nomark _)) (pss_one (ps_expr (pe_bm PySem.F.plainAttrs_list PySem.F.slot_list_append PySem.F.type_list_append mt_append (pv 3) (pa_cons (pe_op op_add (pe_bm PySem.F.plainAttrs_list PySem.F.slot_list_index PySem.F.type_list_index (mt_indexD hu65) (pv 2) (pa_cons (pv 1) pa_nil)) pe_int) pa_nil)))) (pss_one (ps_expr (pe_bm PySem.F.plainAttrs_list PySem.F.slot_list_append PySem.F.type_list_append mt_append (pv 3) (pa_cons pe_int pa_nil)))))))
      (pss_one (ps_ret (pe_callTy call_tupOfF rfl (z_tuple T) (by decide +kernel) (pa_cons (pv 3) pa_nil))))))), fun B0 H0 => ?_⟩
    have hlen : (iL ws).length = ws.length := by simp [iL]
    refine ws_seq (ws_asg (s := dL (iL (rise (ws.filter fun x => decide (0 < x))))) (ev_fz (ev_sortSet (κ := .pl) (ns := ws.filter fun x => decide (0 < x)) ((ev_fz (ev_lcT (κ' := .pl) (ds := iL ws) (fun d => match d with | .int i => decide (0 < i) | _ => false) id (ev_var rfl) (List.mem_cons_self ..) (by omega) (fun d hd => ?_) (fun d hd _ => ?_))).is ?_) ?_ _ (rise_is _) (rise_one _) rfl)) ?_)
    · obtain ⟨i, _, rfl⟩ := List.mem_map.mp hd
      exact et_test (ev_gt (ev_sc (ev_var rfl)) ev_int)
    · obtain ⟨i, _, rfl⟩ := List.mem_map.mp hd
      exact ev_sc (ev_var rfl)
    · rw [List.map_id]
      exact congrArg (fun l => dL l) (filt_ints ws)
    · have := List.length_filter_le (fun x => decide (0 < x)) ws
      omega
    refine ws_seq (ws_asg (ev_lst (ds := []) (κ := .pl) ea_nil (Nat.zero_le _)) ?_)
    refine ws_seq (ws_forT (ds := iL ws) (κ := κ) (f := fun x Γ => Γ.set 1 (some (.d x κ))) (ev_var rfl) (fun x _ => tg_name) (fun i Γ' => ∃ o, Γ' = [some (.d (.tuple (iL ws)) κ), o, some (dL (iL (rise (ws.filter fun x => decide (0 < x))))), some (.own (iL ((ws.take i).map (look1 ws))))]) ⟨none, rfl⟩ ?_ ?_)
    · rintro i x Γ' hx ⟨o, rfl⟩
      obtain ⟨y, hy, rfl⟩ : ∃ y, ws[i]? = some y ∧ PyData.int y = x := by
        unfold iL at hx
        rw [List.getElem?_map] at hx
        cases q : ws[i]? with
        | none => rw [q] at hx; cases hx
        | some y => rw [q] at hx; exact ⟨y, rfl, Option.some.inj hx⟩
      have hi := (List.getElem?_eq_some_iff.mp hy).1
      have e : iL ((ws.take (i + 1)).map (look1 ws)) = iL ((ws.take i).map (look1 ws)) ++ [.int (look1 ws y)] := by
        rw [List.take_add_one, hy]
        simp [iL]
      have hlt : (iL ((ws.take i).map (look1 ws))).length < 100000 := by
        have := List.length_take_le i ws
        simp only [iL, List.length_map]
        omega
      refine ws_if (et_test (ev_gt (ev_sc (ev_var rfl)) ev_int)) (fun hb => ws_app (κ := .pl) rfl (ev_add (ev_indexD (κ := .pl) (κ' := κ) (ds := iL (rise (ws.filter fun x => decide (0 < x)))) (x := .int y) (d := .int y) (j := (rise (ws.filter fun x => decide (0 < x))).idxOf y) (ev_var rfl) (ev_var rfl) ((gd_int y).shaped (by decide)) ((gd_lst gd_iL).shaped (by decide)) ?_ ?_ ?_) ev_int) hlt ⟨some (.d (.int y) κ), ?_⟩) fun hb => ws_app (κ := .pl) rfl ev_int hlt ⟨some (.d (.int y) κ), ?_⟩
      · have hm : y ∈ rise (ws.filter fun x => decide (0 < x)) := rise_mem.mpr (List.mem_filter.mpr ⟨List.mem_of_getElem? hy, hb⟩)
        exact idx_int hm
      · rw [eqv_int]; simp
      · exact idx_not
      · rw [e]
        have : look1 ws y = ((rise (ws.filter fun x => decide (0 < x))).idxOf y : Nat) + 1 := by unfold look1; rw [if_pos (of_decide_eq_true hb)]
        rw [this]; rfl
      · rw [e]
        have : look1 ws y = 0 := by unfold look1; rw [if_neg (of_decide_eq_false hb)]
        rw [this]; rfl
    · rintro Γ' ⟨o, rfl⟩
      rw [hlen, List.take_length]
      refine ws_freeze (i := 3) (κ := .pl) rfl (ws_ret (ev_tupOfF (κ := .pl) (ev_var rfl) fun d hd => ?_) rfl)
      obtain ⟨i, _, rfl⟩ := List.mem_map.mp hd
      rfl
end TG
set_option Elab.async false
set_option linter.all false
set_option maxRecDepth 100000
set_option maxHeartbeats 4000000
/-! W3: keys, rows, chief, alone, first, rank. -/
namespace TG
open PySem PySem.Spec PyProof.Rows L2
variable {P : Program} {w : World} {K : KF} {mg : Str → Option Value} {base : Heap}
theorem filter_rng (ws : List Int) (n : Nat) (f : PyData → Bool) (p : Nat → Bool) (h : ∀ i < n, f (.int ((i : Nat) : Int)) = p i) : (rngD n).filter f = ((List.range n).filter p).map fun (i : Nat) => PyData.int (i : Int) := by
  unfold rngD
  rw [List.filter_map]
  congr 1
  apply List.filter_congr
  intro i hi
  exact h i (List.mem_range.mp hi)
theorem ok_keyof (T : Txt K mg) : FnOk P w K mg base CX0 1 191 (fdOf K 191) ["weights"] (spD (fun ss s => ∃ (κ : TK) (ws : List Int), ss = [.d (.tuple (iL ws)) κ] ∧ ws.length < 60 ∧ s = .d (keyD ws)) noX) := by
  refine Fun.okD (f_keyof T) sc_keyof (fun ss s ⟨_, d, h, _⟩ => by rw [h]; rfl) fun cdv A outer h H E hr ss s ⟨κ, ws, hs, hl, hv⟩ => ?_
  subst hs hv
  refine ⟨_, (pss_cons (ps_setLc (i := 1) (own := [("k", 2)]) rfl sc_keyof.nd rfl rfl (sw_true rfl rfl rfl (by decide +kernel)) (pi_range1 rfl (z_range T) (pa_cons (pe_callB call_len rfl (z_len T) PySem.boot_len (pa_cons (pv 0) pa_nil)) pa_nil)) (blkOk_by (own := [("k", 2)]) (N := N_keyof) (sc := defScope s_keyof) (by decide +kernel)) (fun _ _ _ _ _ => pg_name (i := 2) sc_keyof.nd rfl (Or.inl rfl)) (fun _ _ _ _ _ => (pts_one (pt_cmpR op_gt (pe_ix (r := rIxT K) ix_tup (pv 0) (pv 2) (fun _ _ => rfl)) pe_int (nomark _)))) (fun _ _ _ _ _ => (pv 2)))
      (pss_one (ps_ret (pe_tup (pa_cons (pe_callB call_len rfl (z_len T) PySem.boot_len (pa_cons (pv 1) pa_nil)) (pa_cons (pe_callTy call_tuple_of rfl (z_tuple T) (by decide +kernel) (pa_cons (pv 1) pa_nil)) (pa_cons (pe_callTy call_tuple_of rfl (z_tuple T) (by decide +kernel) (pa_cons (pe_lc (own := [("k", 2)]) rfl sc_keyof.nd (pi_list (pv 1)) (blkOk_by (own := [("k", 2)]) (N := N_keyof) (sc := defScope s_keyof) (by decide +kernel)) (fun _ _ _ _ _ => pg_name (i := 2) sc_keyof.nd rfl (Or.inl rfl)) (fun _ _ _ _ _ => pts_nil) (fun _ _ _ _ _ => (pe_ix (r := rIxT K) ix_tup (pv 0) (pv 2) (fun _ _ => rfl)))) pa_nil)) pa_nil))))))), fun B0 H0 => ?_⟩
  have hix : ∀ (Γ : Cxt) (k : Nat) (ta tb : TE), k < ws.length → EvS ta Γ (.d (.tuple (iL ws)) κ) → EvS tb Γ (dI (k : Int)) → EvS (tOp (rIxT K) ta tb) Γ (dI (ws.getD k 0)) := fun Γ k ta tb hk ha hb => ev_sc (ev_ixT (ds := iL ws) ha hb (atI_nat (i_get hk)))
  refine ws_seq (ws_asg (s := dL (iL (placesOf ws))) ((ev_fz (ev_lcR (κ' := .pl) (n := ws.length) (fun d => match d with | .int i => decide (0 < ws.getD i.toNat 0) | _ => false) id (ea_cons ((ev_lenT (ds := iL ws) (ev_var rfl)).is (by rw [iL_len])) ea_nil) (List.mem_cons_self ..) (by omega) (fun i hi => ?_) (fun i hi _ => ?_))).is ?_) ?_)
  · exact et_test (ev_gt (hix _ i _ _ hi (ev_var rfl) (ev_var rfl)) ev_int)
  · exact ev_var rfl
  · rw [List.map_id, filter_rng ws ws.length _ (fun k => decide (0 < ws.getD k 0)) (fun i hi => rfl)]
    unfold placesOf iL
    rw [List.map_map]
    rfl
  have hpl : (placesOf ws).length ≤ 100000 := by
    unfold placesOf
    rw [List.length_map]
    have := List.length_filter_le (fun k => decide (0 < ws.getD k 0)) (List.range ws.length)
    rw [List.length_range] at this
    omega
  refine ws_ret (ev_tup (κ := .pl) (ds := [.int (placesOf ws).length, .tuple (iL (placesOf ws)), .tuple (iL ((placesOf ws).map fun k => ws.getD k.toNat 0))]) (ea_cons ((ev_lenL (ds := iL (placesOf ws)) (ev_var rfl)).is (by rw [iL_len])) (ea_cons (ev_tupL (ds := iL (placesOf ws)) (ev_var rfl)) (ea_cons (ev_tupL (ev_fz ((ev_lcL (κ := .pl) (κ' := .pl) (ds := iL (placesOf ws)) (fun _ => true) (fun d => match d with | .int i => .int (ws.getD i.toNat 0) | d => d) (ev_var rfl) (List.mem_cons_self ..) (by rw [iL_len]; exact hpl) (fun d hd => ?_) (fun d hd _ => ?_)).is ?_))) ea_nil))) (by simp)) rfl
  · exact et_yes
  · obtain ⟨i, hi, rfl⟩ := List.mem_map.mp hd
    obtain ⟨k, hk, rfl⟩ := List.mem_map.mp hi
    have hk2 : k < ws.length := List.mem_range.mp (List.mem_filter.mp hk).1
    exact hix _ k _ _ hk2 (ev_var rfl) (ev_var rfl)
  · congr 1
    rw [List.filter_eq_self.mpr (fun _ _ => rfl)]
    unfold iL
    rw [List.map_map, List.map_map]
    rfl
theorem rowsN_len (m : Nat) : ∀ k, ∀ r ∈ rowsN m k, r.length = k
  | 0, r, h => by simp [rowsN] at h; subst h; rfl
  | k + 1, r, h => by
    simp only [rowsN, rowsStep, List.mem_flatMap, List.mem_map] at h
    obtain ⟨q, hq, n, _, rfl⟩ := h
    rw [List.length_append, rowsN_len m k q hq]
    rfl
theorem rowsN_size (m : Nat) : ∀ k, (rowsN m k).length = (m + 1) ^ k
  | 0 => rfl
  | k + 1 => by
    have : ∀ l : List (List Int), (rowsStep m l).length = l.length * (m + 1) := fun l => by
      unfold rowsStep
      induction l with
      | nil => simp
      | cons a l ih => rw [List.flatMap_cons, List.length_append, ih]; simp [Nat.succ_mul]; omega
    rw [rowsN, this, rowsN_size m k, Nat.pow_succ]
def nL (l : List (List Int)) : List PyData := l.map encN
theorem nL_len {l : List (List Int)} : (nL l).length = l.length := by simp [nL]
theorem ok_allrows (T : Txt K mg) : FnOk P w K mg base CX0 1 198 (fdOf K 198) ["many"] (spD (fun ss s => ∃ m : Nat, ss = [dI (m : Int)] ∧ m ≤ 4 ∧ s = .d (.list (nL (allRows m))) .fz) noX) := by
  refine Fun.okD (f_allrows T) sc_allrows (fun ss s ⟨d, h, _⟩ => by rw [h]; rfl) fun cdv A outer h H E hr ss s ⟨m, hs, hm, hv⟩ => ?_
  subst hs hv
  refine ⟨_, (pss_cons (ps_set (i := 1) sc_allrows.nd rfl (Or.inl rfl) (pe_lst (pa_cons (pe_tupF pa_nil) pa_nil)))
      (pss_cons (ps_for PassesOwn.never rfl (pi_range1 rfl (z_range T) (pa_cons (pv 0) pa_nil)) (pg_name (i := 2) sc_allrows.nd rfl (Or.inl rfl))
      (pss_cons (ps_set (i := 3) sc_allrows.nd rfl (Or.inl rfl) (pe_lst pa_nil))
      (pss_cons (ps_for PassesOwn.never rfl (pi_list (pv 1)) (pg_name (i := 4) sc_allrows.nd rfl (Or.inl rfl))
      (pss_one (ps_for PassesOwn.never rfl (pi_range1 rfl (z_range T) (pa_cons (pe_op op_add (pv 0) pe_int) pa_nil)) (pg_name (i := 5) sc_allrows.nd rfl (Or.inl rfl))
      (pss_one (ps_expr (pe_bm PySem.F.plainAttrs_list PySem.F.slot_list_append PySem.F.type_list_append mt_append (pv 3) (pa_cons (pe_op op_catF (pv 4) (pe_tupF (pa_cons (pv 5) pa_nil))) pa_nil)))))))
      (pss_one (ps_set (i := 1) sc_allrows.nd rfl (Or.inl rfl) (pv 3))))))
      (pss_one (ps_ret (pv 1))))), fun B0 H0 => ?_⟩
  have sz : ∀ k ≤ 4, (rowsN m k).length ≤ 625 := fun k hk => by
    rw [rowsN_size]
    exact Nat.le_trans (Nat.pow_le_pow_left (by omega : m + 1 ≤ 5) k) (Nat.pow_le_pow_right (by decide) hk)
  refine ws_seq (ws_asg (ev_fz (ev_lst (ds := nL [[]]) (κ := .fz) (ea_cons (ev_tupF (ds := []) ea_nil (Nat.zero_le _)) ea_nil) (by decide))) ?_)
  refine ws_seq (ws_forR (n := m) (ea_cons (ev_var rfl) ea_nil) (by omega) (fun i Γ' => ∃ a b c d, Γ' = [some (dI (m : Int)), some (.d (.list (nL (rowsN m i))) .fz), a, b, c, d]) ⟨none, none, none, none, rfl⟩ ?_ ?_)
  · rintro i Γ' hi ⟨a, b, c, d, rfl⟩
    refine ws_seq (ws_asg (ev_lst (ds := []) (κ := .fz) ea_nil (Nat.zero_le _)) ?_)
    refine ws_seq (ws_forL (κ := .fz) (ds := nL (rowsN m i)) (f := fun x Γ => Γ.set 4 (some (.d x .fz))) (ev_var rfl) (fun x _ => tg_name) (fun j Γ' => ∃ a c d, Γ' = [some (dI (m : Int)), some (.d (.list (nL (rowsN m i))) .fz), a, some (.own (nL (rowsStep m ((rowsN m i).take j))) .fz), c, d]) ⟨_, _, _, rfl⟩ ?_ ?_)
    · rintro j x Γ' hx ⟨a, c, d, rfl⟩
      obtain ⟨r, hr, rfl⟩ : ∃ r, (rowsN m i)[j]? = some r ∧ encN r = x := by
        unfold nL at hx
        rw [List.getElem?_map] at hx
        cases q : (rowsN m i)[j]? with
        | none => rw [q] at hx; cases hx
        | some y => rw [q] at hx; exact ⟨y, rfl, Option.some.inj hx⟩
      have hrl := rowsN_len m i r (List.mem_of_getElem? hr)
      have hjl := (List.getElem?_eq_some_iff.mp hr).1
      have hszj : (rowsStep m ((rowsN m i).take j)).length ≤ 625 * 5 := by
        have e1 : (rowsStep m ((rowsN m i).take j)).length = ((rowsN m i).take j).length * (m + 1) := by
          unfold rowsStep
          generalize (rowsN m i).take j = l
          induction l with
          | nil => simp
          | cons a l ih => rw [List.flatMap_cons, List.length_append, ih]; simp [Nat.succ_mul]; omega
        have e2 : ((rowsN m i).take j).length ≤ 625 := Nat.le_trans (List.length_take_le _ _) (by have := sz i (by omega); omega)
        rw [e1]
        exact Nat.mul_le_mul e2 (by omega)
      refine ws_forR (n := m + 1) (ea_cons ((ev_add (i := (m : Int)) (j := 1) (ev_var rfl) ev_int).is (by simp)) ea_nil) (by omega) (fun q Γ' => ∃ a d, Γ' = [some (dI (m : Int)), some (.d (.list (nL (rowsN m i))) .fz), a, some (.own (nL (rowsStep m ((rowsN m i).take j) ++ (List.range q).map fun (n : Nat) => r ++ [(n : Int)])) .fz), some (.d (encN r) .fz), d]) ⟨a, d, ?_⟩ ?_ ?_
      · simp only [List.range_zero, List.map_nil, List.append_nil]
        rfl
      · rintro q Γ' hq ⟨a, d, rfl⟩
        refine ws_app (κ := .fz) rfl (ev_catF (a := iL r) (b := iL [(q : Int)]) (ev_var rfl) (ev_tupF (ds := iL [(q : Int)]) (ea_cons (ev_sc (ev_var (s := dI (q : Int)) rfl)) ea_nil) (by simp [iL])) (by simp [iL]) (by simp only [iL, List.length_map, hrl, List.length_cons, List.length_nil]; omega)) ?_ ⟨a, some (dI (q : Int)), ?_⟩
        · simp only [nL, List.length_map, List.length_append, List.length_range]
          omega
        · rw [List.range_succ, List.map_append, ← List.append_assoc]
          simp only [nL, List.map_append, List.map_cons, List.map_nil, encN, iL]
          rfl
      · rintro Γ' ⟨a, d, rfl⟩
        refine ⟨a, some (.d (encN r) .fz), d, ?_⟩
        rw [List.take_add_one, hr]
        unfold rowsStep
        simp
    · rintro Γ' ⟨a, c, d, rfl⟩
      refine ws_freeze (i := 3) (κ := .fz) rfl (ws_asg (ev_var rfl) ⟨a, some (.d (.list (nL (rowsN m (i + 1)))) .fz), c, d, ?_⟩)
      rw [nL_len, List.take_length]
      rfl
  · rintro Γ' ⟨a, b, c, d, rfl⟩
    exact ws_ret (ev_var rfl) rfl
end TG
set_option Elab.async false
set_option linter.all false
set_option maxRecDepth 100000
set_option maxHeartbeats 4000000
/-! W4: all looks, chief, alone, first, rank. -/
namespace TG
open PySem PySem.Spec PyProof.Rows L2
variable {P : Program} {w : World} {K : KF} {mg : Str → Option Value} {base : Heap}
/-- the ints of a tuple -/
def unN : PyData → List Int
  | .tuple l => l.map fun d => match d with | .int i => i | _ => 0
  | _ => []
theorem unN_N (n : List Int) : unN (encN n) = n := by
  simp [unN, encN, Function.comp_def]
def keyOf (d : PyData) : PyData := keyD (unN d)
def goodRows (m : Nat) : List (List Int) := (allRows m).filter fun r => decide (0 < maxL r) && decide (lookOf r = r)
def allLooksD (m : Nat) : List PyData := (nL (goodRows m)).mergeSort (PySem.W.dataLe false keyOf)
def allLooks (m : Nat) : List (List Int) := (allLooksD m).map unN
theorem allLooksD_mem {m : Nat} {d : PyData} (h : d ∈ allLooksD m) : ∃ r ∈ goodRows m, d = encN r := by
  have := (List.mergeSort_perm (nL (goodRows m)) (PySem.W.dataLe false keyOf)).mem_iff.mp h
  obtain ⟨r, hr, rfl⟩ := List.mem_map.mp this
  exact ⟨r, hr, rfl⟩
theorem allLooks_enc (m : Nat) : nL (allLooks m) = allLooksD m := by
  unfold nL allLooks
  rw [List.map_map]
  refine (List.map_congr_left fun d hd => ?_).trans (List.map_id _)
  obtain ⟨r, _, rfl⟩ := allLooksD_mem hd
  show encN (unN (encN r)) = id (encN r)
  rw [unN_N]; rfl
theorem allLooks_mem {m : Nat} {r : List Int} (h : r ∈ allLooks m) : r ∈ goodRows m := by
  obtain ⟨d, hd, rfl⟩ := List.mem_map.mp h
  obtain ⟨r, hr, rfl⟩ := allLooksD_mem hd
  rw [unN_N]; exact hr
theorem goodRows_len {m : Nat} {r : List Int} (h : r ∈ goodRows m) : r.length = m := rowsN_len m m r (List.mem_filter.mp h).1
theorem allLooks_len {m : Nat} {r : List Int} (h : r ∈ allLooks m) : r.length = m := goodRows_len (allLooks_mem h)
theorem allRows_size {m : Nat} (h : m ≤ 4) : (allRows m).length ≤ 625 := by
  unfold allRows
  rw [rowsN_size]
  exact Nat.le_trans (Nat.pow_le_pow_left (by omega : m + 1 ≤ 5) m) (Nat.pow_le_pow_right (by decide) h)
theorem goodRows_size {m : Nat} (h : m ≤ 4) : (goodRows m).length ≤ 625 := Nat.le_trans (List.length_filter_le _ _) (allRows_size h)
theorem allLooks_size {m : Nat} (h : m ≤ 4) : (allLooks m).length ≤ 625 := by
  unfold allLooks allLooksD
  rw [List.length_map, (List.mergeSort_perm _ _).length_eq, nL_len]
  exact goodRows_size h
theorem key_depth (r : List Int) : (keyD r).depth ≤ 60 := by
  have : Gd 2 (keyD r) := gd_tup (n := 1) fun d h => by
    simp only [List.mem_cons, List.not_mem_nil, or_false] at h
    rcases h with rfl | rfl | rfl
    · exact (gd_int _).mono (by decide)
    · exact gd_tup (n := 0) gd_iL
    · exact gd_tup (n := 0) gd_iL
  exact Nat.le_trans this.2 (by decide)
theorem ok_alllooks (T : Txt K mg) : FnOk P w K mg base CX0 4 203 (fdOf K 203) ["many"] (spD (fun ss s => ∃ m : Nat, ss = [dI (m : Int)] ∧ 1 ≤ m ∧ m ≤ 4 ∧ s = .own (nL (allLooks m)) .fz) noX) := by
  refine Fun.okD (f_alllooks T) sc_alllooks (fun ss s ⟨d, h, _⟩ => by rw [h]; rfl) fun cdv A outer h H E hr ss s ⟨m, hs, hm1, hm, hv⟩ => ?_
  have hu65 := hu65_of hr
  have hu64 : A.units + 3 + 64 < cLine := hr.units
  subst hs hv
  refine ⟨_, (pss_cons (ps_setLc (i := 1) (own := [("row", 2)]) rfl sc_alllooks.nd rfl rfl (sw_true rfl rfl rfl (by decide +kernel)) (pi_list (pe_call (ok_allrows T) (hr.mono (by decide)) rfl (g_allrows T) (f_allrows T).kp (b_allrows T) .nil pass0 (pa_cons (pv 0) pa_nil))) (blkOk_by (own := [("row", 2)]) (N := N_alllooks) (sc := defScope s_alllooks) (by decide +kernel)) (fun _ _ _ _ _ => pg_name (i := 2) sc_alllooks.nd rfl (Or.inl rfl)) (fun _ _ _ _ _ => (pts_one (PW.pt (pw_and (pt_cmpR op_gt (pe_callB (r := rMaxT K) (cr_maxT rfl hu65) rfl (z_max T) (by decide +kernel) (pa_cons (pv 2) pa_nil)) pe_int (nomark _)) (pw_and1 (pt_cmpR (r := rEqD K) (op_eqD hu64) (pe_call (ok_lookof T) (hr.mono (by decide)) rfl (g_lookof T) (f_lookof T).kp (b_lookof T) .nil pass0 (pa_cons (pv 2) pa_nil)) (pv 2) (nomark _))))))) (fun _ _ _ _ _ => (pv 2)))
      (pss_one (ps_ret (pe_callBK (cr_sortK (κ := .fz) (κ' := .pl) (k := 1) (ok_keyof T) (hr.mono (by decide)) (b_keyof T)) rfl (z_sorted T) (by decide +kernel) (pa_cons (pv 1) pa_nil) (pk_cons (pe_glob (v := .ref 191) rfl (g_keyof T) rfl) pk_nil))))), fun B0 H0 => ?_⟩
  refine ws_seq (ws_asg (s := .d (.list (nL (goodRows m))) .fz) ((ev_fz (ev_lcL (κ := .fz) (κ' := .fz) (ds := nL (allRows m)) (fun d => decide (0 < maxL (unN d)) && decide (lookOf (unN d) = unN d)) id (ev_call (ea_cons (ev_var rfl) ea_nil) ⟨m, rfl, hm, rfl⟩) (List.mem_cons_self ..) (by rw [nL_len]; have := allRows_size hm; omega) (fun d hd => ?_) (fun d hd _ => ?_))).is ?_) ?_)
  · obtain ⟨r, hr, rfl⟩ := List.mem_map.mp hd
    have hrl : r.length = m := rowsN_len m m r hr
    rw [unN_N]
    cases r with
    | nil => simp at hrl; omega
    | cons x l =>
      have hlen : (x :: l).length < 60 := by rw [hrl]; omega
      refine et_and (et_test (ev_gt (ev_maxT (κ := .fz) (n := x) (ns := l) (ev_var rfl)) ev_int)) fun _ => et_test ((ev_eqD (κ := .fz) (κ' := .fz) (ev_call (ea_cons (ev_var rfl) ea_nil) ⟨.fz, x :: l, .inr rfl, hlen, rfl⟩) (ev_var rfl) ((gd_N _).shaped (by decide)) ((gd_N _).shaped (by decide))).is ?_)
      exact congrArg (fun b => dB b) (eqv_N _ _)
  · exact ev_var rfl
  · rw [List.map_id]
    have : (nL (allRows m)).filter (fun d => decide (0 < maxL (unN d)) && decide (lookOf (unN d) = unN d)) = nL (goodRows m) := by
      unfold nL goodRows
      rw [List.filter_map]
      congr 1
      apply List.filter_congr
      intro r _
      simp only [Function.comp, unN_N]
    rw [this]
  · refine ws_ret (s := .own (nL (allLooks m)) .fz) ((ev_sortK (κ := .fz) (κ' := .pl) (ds := nL (goodRows m)) (ky := keyOf) (ev_var rfl) ?_ ?_ ?_ ?_).is (by rw [allLooks_enc]; rfl)) rfl
    · intro d hd d' hd'
      obtain ⟨a, _, rfl⟩ := List.mem_map.mp hd
      obtain ⟨b, _, rfl⟩ := List.mem_map.mp hd'
      exact alike_key _ _
    · refine Or.inl fun d hd => ?_
      obtain ⟨a, _, rfl⟩ := List.mem_map.mp hd
      exact ⟨_, _, rfl⟩
    · intro d hd
      exact key_depth _
    · intro d hd
      obtain ⟨r, hr, rfl⟩ := List.mem_map.mp hd
      refine ⟨.fz, r, rfl, by rw [goodRows_len hr]; omega, ?_⟩
      unfold keyOf
      rw [unN_N]
end TG
set_option Elab.async false
set_option linter.all false
set_option maxRecDepth 100000
set_option maxHeartbeats 4000000
/-! W5: chief, alone, first, rank. -/
namespace TG
open PySem PySem.Spec PyProof.Rows L2
variable {P : Program} {w : World} {K : KF} {mg : Str → Option Value} {base : Heap}
theorem find_at {n i : Nat} {p : Nat → Bool} (hi : i < n) (h0 : ∀ j < i, p j = false) (h1 : p i = true) : (List.range n).find? p = some i := by
  rw [List.find?_eq_some_iff_append]
  refine ⟨h1, List.range i, (List.range (n - (i + 1))).map fun k => i + 1 + k, ?_, fun j hj => ?_⟩
  · rw [← List.range'_eq_map_range, List.range_eq_range', List.range_eq_range']
    have e1 : i :: List.range' (i + 1) (n - (i + 1)) = List.range' i (n - i) := by
      rw [show n - i = (n - (i + 1)) + 1 by omega, List.range'_succ]
    rw [e1, show List.range' 0 n = List.range' 0 (i + (n - i)) by congr 1; omega, ← List.range'_append]
    simp
  · rw [h0 j (List.mem_range.mp hj)]; rfl
theorem find_no {n : Nat} {p : Nat → Bool} (h0 : ∀ j < n, p j = false) : (List.range n).find? p = none := by
  rw [List.find?_eq_none]
  intro j hj
  rw [h0 j (List.mem_range.mp hj)]
  decide
def optD : Option Nat → PyData
  | some k => .int (k : Int)
  | none => .none
def sideI (b : Bool) : Int := if b then 1 else 0
theorem ks_ix {Γ : Cxt} {ta tb : TE} {ks : List Knd} {k : Nat} (hk : k < ks.length) (ha : EvS ta Γ (dL (ksL ks))) (hb : EvS tb Γ (dI (k : Int))) : EvS (tOp (rIxL K) ta tb) Γ (.d (kD (ks.getD k ("", "")))) := ev_ixL (ds := ksL ks) ha hb (atI_nat (ks_get hk))
theorem look_ix {κ : TK} {Γ : Cxt} {ta tb : TE} {l : List Int} {k : Nat} (hk : k < l.length) (ha : EvS ta Γ (.d (.tuple (iL l)) κ)) (hb : EvS tb Γ (dI (k : Int))) : EvS (tOp (rIxT K) ta tb) Γ (dI (l.getD k 0)) := ev_sc (ev_ixT (ds := iL l) ha hb (atI_nat (i_get hk)))
theorem nam_get (k : Knd) (b : Bool) : atI [PyData.str k.1, .str k.2] (sideI b) = some (.str (nam b k)) := by cases b <;> rfl
theorem ok_firstat (T : Txt K mg) : FnOk P w K mg base CX0 1 224 (fdOf K 224) ["kinds", "look", "side", "name", "least"] (spD (fun ss s => ∃ (κ : TK) (ks : List Knd) (look : List Int) (side : Bool) (name : Str) (least : Int), ss = [dL (ksL ks), .d (.tuple (iL look)) κ, dI (sideI side), dS name, dI least] ∧ look.length = ks.length ∧ ks.length ≤ 1000 ∧ s = .d (optD (firstN ks look side name least))) noX) := by
  refine Fun.okD (f_firstat T) sc_firstat (fun ss s ⟨_, _, _, _, _, _, h, _⟩ => by rw [h]; rfl) fun cdv A outer h H E hr ss s ⟨κ, ks, look, side, name, least, hs, hl, hk, hv⟩ => ?_
  subst hs hv
  refine ⟨_, (pss_cons (ps_for PassesOwn.never rfl (pi_range1 rfl (z_range T) (pa_cons (pe_callB call_len rfl (z_len T) PySem.boot_len (pa_cons (pv 0) pa_nil)) pa_nil)) (pg_name (i := 5) sc_firstat.nd rfl (Or.inl rfl))
      (pss_one (ps_if (PW.pt (pw_and (pt_cmpR op_ge (pe_ix ix_tup (pv 1) (pv 5) (fun _ _ => rfl)) (pv 4) (nomark _)) (pw_and1 (pt_cmpR op_eq (pe_ix ix_tup (pe_ix ix_list (pv 0) (pv 5) (fun _ _ => rfl)) (pv 2) (fun _ _ => rfl)) (pv 3) (nomark _))))) (pss_one (ps_ret (pv 5))) pss_nil)))
      (pss_one (ps_ret pe_non))), fun B0 H0 => ?_⟩
  obtain ⟨p, hp⟩ : ∃ p : Nat → Bool, p = fun k => decide (least ≤ look.getD k 0) && decide (nam side (ks.getD k ("", "")) = name) := ⟨_, rfl⟩
  have hfn : firstN ks look side name least = (List.range ks.length).find? p := by rw [hp]; rfl
  rw [hfn]
  refine ws_seq (ws_forR (n := ks.length) (ea_cons ((ev_lenL (ds := ksL ks) (ev_var rfl)).is (by rw [ksL_len])) ea_nil) (by omega) (fun i Γ' => (∃ o, Γ' = [some (dL (ksL ks)), some (.d (.tuple (iL look)) κ), some (dI (sideI side)), some (dS name), some (dI least), o]) ∧ ∀ j < i, p j = false) ⟨⟨none, rfl⟩, fun j h => absurd h (Nat.not_lt_zero _)⟩ ?_ ?_)
  · rintro i Γ' hi ⟨⟨o, rfl⟩, h0⟩
    refine ws_if (b := p i) ((et_and (et_test (ev_ge (look_ix (by omega) (ev_var rfl) (ev_var rfl)) (ev_var rfl))) fun _ => et_test (ev_eqS (ev_ixT (ds := [.str (ks.getD i ("", "")).1, .str (ks.getD i ("", "")).2]) (ks_ix hi (ev_var rfl) (ev_var rfl)) (ev_var rfl) (nam_get _ side)) (ev_var rfl))).is (by rw [hp])) (fun hb => ?_) fun hb => ws_next ⟨⟨_, rfl⟩, fun j hj => ?_⟩
    · refine ws_ret (ev_var rfl) ?_
      rw [find_at hi h0 hb]
      rfl
    · rcases Nat.lt_succ_iff_lt_or_eq.mp hj with hj | rfl
      · exact h0 j hj
      · exact hb
  · rintro Γ' ⟨⟨o, rfl⟩, h0⟩
    refine ws_ret ev_non ?_
    rw [find_no h0]
    rfl
theorem ok_rankof (T : Txt K mg) : FnOk P w K mg base CX0 1 231 (fdOf K 231) ["kinds", "look", "kind"] (spD (fun ss s => ∃ (κ κ' : TK) (ks : List Knd) (look : List Int) (kd : Knd), ss = [dL (ksL ks), .d (.tuple (iL look)) κ, .d (kD kd) κ'] ∧ look.length = ks.length ∧ ks.length ≤ 1000 ∧ (∀ k ∈ ks, kOk k) ∧ kOk kd ∧ s = dI (rankN ks look kd)) noX) := by
  refine Fun.okD (f_rankof T) sc_rankof (fun ss s ⟨_, _, _, _, _, h, _⟩ => by rw [h]; rfl) fun cdv A outer h H E hr ss s ⟨κ, κ', ks, look, kd, hs, hl, hk, ho, hod, hv⟩ => ?_
  have hu64 : A.units + 3 + 64 < cLine := hr.units
  subst hs hv
  refine ⟨_, (pss_cons (ps_for PassesOwn.never rfl (pi_range1 rfl (z_range T) (pa_cons (pe_callB call_len rfl (z_len T) PySem.boot_len (pa_cons (pv 0) pa_nil)) pa_nil)) (pg_name (i := 3) sc_rankof.nd rfl (Or.inl rfl))
      (pss_one (ps_if (pt_cmpR (op_eqD hu64) (pe_ix ix_list (pv 0) (pv 3) (fun _ _ => rfl)) (pv 2) (nomark _)) (pss_one (ps_ret (pe_ix ix_tup (pv 1) (pv 3) (fun _ _ => rfl)))) pss_nil)))
      (pss_one (ps_ret pe_int))), fun B0 H0 => ?_⟩
  obtain ⟨p, hp⟩ : ∃ p : Nat → Bool, p = fun k => decide (ks.getD k ("", "") = kd) := ⟨_, rfl⟩
  have hfn : rankN ks look kd = match (List.range ks.length).find? p with | some k => look.getD k 0 | none => 0 := by rw [hp]; rfl
  rw [hfn]
  have hok : ∀ i < ks.length, kOk (ks.getD i ("", "")) := fun i hi => by
    apply ho
    rw [List.getD_eq_getElem?_getD, List.getElem?_eq_getElem hi]
    exact List.getElem_mem hi
  refine ws_seq (ws_forR (n := ks.length) (ea_cons ((ev_lenL (ds := ksL ks) (ev_var rfl)).is (by rw [ksL_len])) ea_nil) (by omega) (fun i Γ' => (∃ o, Γ' = [some (dL (ksL ks)), some (.d (.tuple (iL look)) κ), some (.d (kD kd) κ'), o]) ∧ ∀ j < i, p j = false) ⟨⟨none, rfl⟩, fun j h => absurd h (Nat.not_lt_zero _)⟩ ?_ ?_)
  · rintro i Γ' hi ⟨⟨o, rfl⟩, h0⟩
    refine ws_if (b := p i) (et_test ((ev_eqD (κ' := κ') (ks_ix hi (ev_var rfl) (ev_var rfl)) (ev_var rfl) ((gd_k (hok i hi)).shaped (by decide)) ((gd_k hod).shaped (by decide))).is ?_)) (fun hb => ?_) fun hb => ws_next ⟨⟨_, rfl⟩, fun j hj => ?_⟩
    · rw [hp, eqv_k]
    · refine ws_ret (look_ix (by omega) (ev_var rfl) (ev_var rfl)) ?_
      rw [find_at hi h0 hb]
    · rcases Nat.lt_succ_iff_lt_or_eq.mp hj with hj | rfl
      · exact h0 j hj
      · exact hb
  · rintro Γ' ⟨⟨o, rfl⟩, h0⟩
    refine ws_ret ev_int ?_
    rw [find_no h0]
def chiefTo (look : List Int) (n : Nat) : Nat := (List.range n).foldl (fun c k => if look.getD c 0 < look.getD k 0 then k else c) 0
theorem chiefTo_succ (look : List Int) (n : Nat) : chiefTo look (n + 1) = if look.getD (chiefTo look n) 0 < look.getD n 0 then n else chiefTo look n := by
  unfold chiefTo
  rw [List.range_succ, List.foldl_append]
  rfl
theorem chiefTo_lt (look : List Int) : ∀ n, chiefTo look n = 0 ∨ chiefTo look n < n
  | 0 => .inl rfl
  | n + 1 => by
    rw [chiefTo_succ]
    rcases chiefTo_lt look n with h | h <;> split <;> omega
theorem ok_chiefof (T : Txt K mg) : FnOk P w K mg base CX0 1 210 (fdOf K 210) ["look"] (spD (fun ss s => ∃ (κ : TK) (look : List Int), ss = [.d (.tuple (iL look)) κ] ∧ 1 ≤ look.length ∧ look.length ≤ 1000 ∧ s = dI (chiefN look : Nat)) noX) := by
  refine Fun.okD (f_chiefof T) sc_chiefof (fun ss s ⟨_, _, h, _⟩ => by rw [h]; rfl) fun cdv A outer h H E hr ss s ⟨κ, look, hs, hl, hk, hv⟩ => ?_
  subst hs hv
  refine ⟨_, (pss_cons (ps_set (i := 1) sc_chiefof.nd rfl (Or.inl rfl) pe_int)
      (pss_cons (ps_for PassesOwn.never rfl (pi_range1 rfl (z_range T) (pa_cons (pe_callB call_len rfl (z_len T) PySem.boot_len (pa_cons (pv 0) pa_nil)) pa_nil)) (pg_name (i := 2) sc_chiefof.nd rfl (Or.inl rfl))
      (pss_one (ps_if (pt_cmpR op_gt (pe_ix ix_tup (pv 0) (pv 2) (fun _ _ => rfl)) (pe_ix ix_tup (pv 0) (pv 1) (fun _ _ => rfl)) (nomark _)) (pss_one (ps_set (i := 1) sc_chiefof.nd rfl (Or.inl rfl) (pv 2))) pss_nil)))
      (pss_one (ps_ret (pv 1))))), fun B0 H0 => ?_⟩
  refine ws_seq (ws_asg (ev_int (i := 0)) ?_)
  refine ws_seq (ws_forR (n := look.length) (ea_cons ((ev_lenT (ds := iL look) (ev_var rfl)).is (by rw [iL_len])) ea_nil) (by omega) (fun i Γ' => ∃ o, Γ' = [some (.d (.tuple (iL look)) κ), some (dI (chiefTo look i : Nat)), o]) ⟨none, rfl⟩ ?_ ?_)
  · rintro i Γ' hi ⟨o, rfl⟩
    have hc : chiefTo look i < look.length := by
      rcases chiefTo_lt look i with h | h
      · omega
      · omega
    refine ws_if (et_test (ev_gt (look_ix hi (ev_var rfl) (ev_var rfl)) (look_ix hc (ev_var rfl) (ev_var rfl)))) (fun hb => ws_asg (ev_var rfl) ⟨some (dI (i : Int)), ?_⟩) fun hb => ws_next ⟨some (dI (i : Int)), ?_⟩
    · rw [chiefTo_succ, if_pos (of_decide_eq_true hb)]; rfl
    · rw [chiefTo_succ, if_neg (of_decide_eq_false hb)]; rfl
  · rintro Γ' ⟨o, rfl⟩
    exact ws_ret (ev_var rfl) rfl
theorem ok_aloneof (T : Txt K mg) : FnOk P w K mg base CX0 2 217 (fdOf K 217) ["look"] (spD (fun ss s => ∃ (κ : TK) (look : List Int), ss = [.d (.tuple (iL look)) κ] ∧ 1 ≤ look.length ∧ look.length ≤ 1000 ∧ s = .d (encN (aloneL look))) noX) := by
  refine Fun.okD (f_aloneof T) sc_aloneof (fun ss s ⟨_, _, h, _⟩ => by rw [h]; rfl) fun cdv A outer h H E hr ss s ⟨κ, look, hs, hl, hk, hv⟩ => ?_
  subst hs hv
  refine ⟨_, (pss_cons (ps_set (i := 1) sc_aloneof.nd rfl (Or.inl rfl) (pe_call (ok_chiefof T) (hr.mono (by decide)) rfl (g_chiefof T) (f_chiefof T).kp (b_chiefof T) .nil pass0 (pa_cons (pv 0) pa_nil)))
      (pss_cons (ps_set (i := 2) sc_aloneof.nd rfl (Or.inl rfl) (pe_lst pa_nil))
      (pss_cons (ps_for PassesOwn.never rfl (pi_range1 rfl (z_range T) (pa_cons (pe_callB call_len rfl (z_len T) PySem.boot_len (pa_cons (pv 0) pa_nil)) pa_nil)) (pg_name (i := 3) sc_aloneof.nd rfl (Or.inl rfl))
      (pss_one (ps_expr (pe_bm PySem.F.plainAttrs_list PySem.F.slot_list_append PySem.F.type_list_append mt_append (pv 2) (pa_cons (pe_callTy call_int1 rfl (z_int T) (by decide +kernel) (pa_cons (pe_cmpR op_eq (pv 3) (pv 1) (nomark _)) pa_nil)) pa_nil)))))
      (pss_one (ps_ret (pe_callTy call_tuple_of rfl (z_tuple T) (by decide +kernel) (pa_cons (pv 2) pa_nil))))))), fun B0 H0 => ?_⟩
  refine ws_seq (ws_asg (ev_call (ea_cons (ev_var rfl) ea_nil) ⟨κ, look, rfl, hl, hk, rfl⟩) ?_)
  refine ws_seq (ws_asg (ev_lst (ds := []) (κ := .pl) ea_nil (Nat.zero_le _)) ?_)
  refine ws_seq (ws_forR (n := look.length) (ea_cons ((ev_lenT (ds := iL look) (ev_var rfl)).is (by rw [iL_len])) ea_nil) (by omega) (fun i Γ' => ∃ o, Γ' = [some (.d (.tuple (iL look)) κ), some (dI (chiefN look : Nat)), some (.own (iL ((List.range i).map fun k => if k = chiefN look then (1 : Int) else 0))), o]) ⟨none, rfl⟩ ?_ ?_)
  · rintro i Γ' hi ⟨o, rfl⟩
    refine ws_app (κ := .pl) rfl (ev_intB (ev_eqI (ev_var rfl) (ev_var rfl))) (by simp only [iL, List.length_map, List.length_range]; omega) ⟨some (dI (i : Int)), ?_⟩
    rw [List.range_succ, List.map_append]
    have : (if decide ((i : Int) = (chiefN look : Nat)) = true then (1 : Int) else 0) = if i = chiefN look then 1 else 0 := by
      by_cases h : i = chiefN look
      · simp [h]
      · have h2 : ¬ ((i : Int) = (chiefN look : Nat)) := by omega
        simp [h, h2]
    rw [this]
    simp [iL]
  · rintro Γ' ⟨o, rfl⟩
    exact ws_freeze (i := 2) (κ := .pl) rfl (ws_ret (ev_tupL (ev_var rfl)) rfl)
end TG
set_option Elab.async false
set_option linter.all false
set_option maxRecDepth 100000
set_option maxHeartbeats 4000000
/-! FN: instances made: C() without an own __init__; __init__ that stores its parameters. -/
namespace TG
open PySem PySem.Spec PyProof.Rows L2
def tNew0 (C : Addr) : TE := fun _ H Q => ∀ x dx, H x = none → H dx = none → dx ≠ x → Q (.ref x) (upd (upd H dx (.own x)) x (.ins C dx []))
section
variable {X : Cx} {C : Addr} {x : Str} {p pos : Pos}
theorem pe_new0 (M : fMk0 X.K C = true) (hg : Gl X x) (hm : X.mg x = some (.ref C)) (hdb : (x == ("__debug__" : Str)) = false := by decide) : PE X (.Call (.Name x p) [] [] pos) (tNew0 C) := by
  obtain ⟨M1, M2⟩ := b2 M
  obtain ⟨M3, M4⟩ := b2 M1
  have hi := ok_eqo M2
  refine ⟨fun pins s σ H Q I h => ?_⟩
  refine wpAny_Call_Name_kw (ld_glob I hg hm ?_ hdb)
  refine PySem.W.callWith_K0 I.kIn M4 ?_
  have hq := h (s.heap.objs.size + 1) s.heap.objs.size (I.hok.fresh (Nat.le_succ _)) (I.hok.fresh (Nat.le_refl _)) (Nat.ne_of_lt (Nat.lt_succ_self _))
  have I2 := Inv.made (C := C) I
  have Y := PySem.W.makes_of (M := model X.prog X.w) I.kIn M3
  refine wpAny_call (make_map0 I.kIn M3 hi (fun self => PySem.W.Looks.of_pure (PySem.W.oi_bind self)) ?_)
  have e2 : ((s.heap.push PySem.W.emptyDict).push (PySem.W.instObj C s.heap.objs.size)).get? (s.heap.objs.size + 1) = some (PySem.W.instObj C s.heap.objs.size) := by
    have := Heap.get?_push_size (s.heap.push PySem.W.emptyDict) (o := PySem.W.instObj C s.heap.objs.size) rfl
    rwa [Heap.size_push] at this
  have t1 : PySem.W.Looks (model X.prog X.w) ((s.heap.push PySem.W.emptyDict).push (PySem.W.instObj C s.heap.objs.size)) (typeOf (.ref (s.heap.objs.size + 1))) (.ref C) := (PySem.W.Looks.ld e2).andThen .now
  have t2 : PySem.W.Looks (model X.prog X.w) ((s.heap.push PySem.W.emptyDict).push (PySem.W.instObj C s.heap.objs.size)) (isInstance (.ref (s.heap.objs.size + 1)) (.type "object")) true := t1.andThen (Y.top.keeps fun b o e => Heap.get?_push_of_some _ (Heap.get?_push_of_some _ e))
  refine codeAny_call_builtin PySem.W.oi_plain PySem.W.entry_oi (@PySem.W.check_slot (model X.prog X.w) _ _ _ "object.__init__" "object" "__init__" (.ref (s.heap.objs.size + 1)) [] [] _ PySem.W.oi_kind PySem.W.oi_split t2 (PySem.W.oi_args (.ref (s.heap.objs.size + 1))) ?_)
  rw [PySem.W.oi_run]
  exact wpAny_pure (And.intro rfl ⟨V.ref (s.heap.objs.size + 1), _, I2, rfl, hq⟩)
end
/-- __init__ of a class that stores one, two parameters -/
def spI1 (C : Addr) (f : Str) : Sp := fun vs H Q E => ∃ x dx v, vs = [.ref x, v] ∧ H x = some (.ins C dx []) ∧ Q .non (upd H x (.ins C dx [(f, v)]))
def spI2 (C : Addr) (f g : Str) : Sp := fun vs H Q E => ∃ x dx v w, vs = [.ref x, v, w] ∧ H x = some (.ins C dx []) ∧ Q .non (upd H x (.ins C dx [(f, v), (g, w)]))
section
variable {P : Program} {w : World} {K : KF} {mg : Str → Option Value} {base : Heap}
theorem Fun.okI1 {x qual : Str} {st : Stmt} {fa : Addr} {fd : FuncData} {N ps : List Str} {k : Nat} {C : Addr} {f : Str} (F : Fun K x qual st fa fd) (S : FnScope N ps (defScope st)) (hl : ps.length = 2) (hN : N.length = 2) (c : Cls K C) (na : NoAttr K C f)
    (hb : ∀ (cdv : Value) (A : Around) (outer : List Env) (h : Shared) (H : Hp) (E : XK), PSs (cxOf CX0 P w K mg base N qual (defScope st) fa cdv A outer h H E).nox (defBody st) (sFld K (tVar 0) (tVar 1) f)) : FnOk P w K mg base CX0 (k + 1) fa fd ps (spI1 C f) := by
  refine F.ok S (fun vs H Q E ⟨x, dx, v, h, _⟩ => by rw [h, hl]; rfl) (fun cdv A outer h H vs Q E hr ⟨x, dx, v, hv, hx, q⟩ => ⟨_, hb cdv A outer h H E, ?_⟩)
  subst hv
  have e0 : (L2.start N [V.ref x, v])[0]? = some (some (V.ref x)) := rfl
  have e1 : (L2.start N [V.ref x, v])[1]? = some (some v) := rfl
  exact ⟨v, e1, .ref x, e0, x, C, dx, [], rfl, hx, c, na, by decide, q⟩
theorem Fun.okI2 {x qual : Str} {st : Stmt} {fa : Addr} {fd : FuncData} {N ps : List Str} {k : Nat} {C : Addr} {f g : Str} (F : Fun K x qual st fa fd) (S : FnScope N ps (defScope st)) (hl : ps.length = 3) (c : Cls K C) (na : NoAttr K C f) (nb : NoAttr K C g) (fg : f ≠ g)
    (hb : ∀ (cdv : Value) (A : Around) (outer : List Env) (h : Shared) (H : Hp) (E : XK), PSs (cxOf CX0 P w K mg base N qual (defScope st) fa cdv A outer h H E).nox (defBody st) (tSeq (sFld K (tVar 0) (tVar 1) f) (sFld K (tVar 0) (tVar 2) g))) : FnOk P w K mg base CX0 (k + 1) fa fd ps (spI2 C f g) := by
  refine F.ok S (fun vs H Q E ⟨x, dx, v, w, h, _⟩ => by rw [h, hl]; rfl) (fun cdv A outer h H vs Q E hr ⟨x, dx, v, w, hv, hx, q⟩ => ⟨_, hb cdv A outer h H E, ?_⟩)
  subst hv
  have e0 : (L2.start N [V.ref x, v, w])[0]? = some (some (V.ref x)) := rfl
  have e1 : (L2.start N [V.ref x, v, w])[1]? = some (some v) := rfl
  have e2 : (L2.start N [V.ref x, v, w])[2]? = some (some w) := rfl
  refine ⟨v, e1, .ref x, e0, x, C, dx, [], rfl, hx, c, na, by decide, ?_⟩
  refine ⟨w, e2, .ref x, e0, x, C, dx, [(f, v)], rfl, upd_same, c, nb, (by show 1 < 1000; decide), ?_⟩
  rw [upd_upd]
  have : putF g w [(f, v)] = [(f, v), (g, w)] := by
    show (if f = g then _ else _) = _
    rw [if_neg fg]; rfl
  rw [this]
  exact q
end
section
variable {K : KF} {Γ : Cxt} {s s' : Sl} {ta : TA} {E : XK}
theorem step_ins {B H : Hp} {x dx : Addr} {o : HO} (e : Gr B H) (hx : H x = none) (hd : H dx = none) (ne : dx ≠ x) : Step B H (upd (upd B dx (.own x)) x o) (upd (upd H dx (.own x)) x o) :=
  (Step.new e hd).trans (Step.new (Step.new e hd).bh (by rw [upd_ne (fun z => ne z.symm)]; exact hx))
theorem ev_make0 {C : Addr} {φ : Pv} (hφ : ∀ B x dx, B x = some (.ins C dx []) → φ B (.ref x)) : EvS (tNew0 C) Γ (.ab φ) := fun B H σ Q g q x dx hx hd ne =>
  q _ _ _ (step_ins g.ex hx hd ne) (Ab.of (hφ _ x dx upd_same)) (.no rfl)
theorem ev_make1 {C : Addr} {f : Str} {φ : Pv} (h : EvA ta Γ [s]) (hφ : ∀ B x dx v, B x = some (.ins C dx [(f, v)]) → SlR B B v s → φ B (.ref x)) : EvS (tMake C (spI1 C f) [] E ta) Γ (.ab φ) := fun B H σ Q g q =>
  h B H σ _ g fun vs B1 H1 st r x dx hx hd ne => by
    obtain ⟨v, rfl, a⟩ : ∃ v, vs = [v] ∧ (SlR B1 H1 v s ∧ s.isOwn = false) := by
      cases r with
      | cons a r => cases r; exact ⟨_, rfl, a⟩
    have st2 := step_ins (o := .ins C dx [(f, v)]) st.bh hx hd ne
    refine ⟨x, dx, v, rfl, upd_same, rfl, ?_⟩
    rw [upd_upd]
    exact q _ _ _ (st.trans st2) (Ab.of (hφ _ x dx v upd_same ((a.1.grow a.2 st2.bb)))) (.no rfl)
theorem SlA.two' {B H : Hp} {vs : List V} {s t : Sl} (h : SlA B H vs [s, t]) : ∃ v w, vs = [v, w] ∧ (SlR B H v s ∧ s.isOwn = false) ∧ (SlR B H w t ∧ t.isOwn = false) := by
  cases h with
  | cons a r => cases r with | cons b r => cases r; exact ⟨_, _, rfl, a, b⟩
theorem ev_make2 {C : Addr} {f g' : Str} {φ : Pv} (h : EvA ta Γ [s, s']) (hφ : ∀ B x dx v w, B x = some (.ins C dx [(f, v), (g', w)]) → SlR B B v s → SlR B B w s' → φ B (.ref x)) : EvS (tMake C (spI2 C f g') [] E ta) Γ (.ab φ) := fun B H σ Q g q =>
  h B H σ _ g fun vs B1 H1 st r x dx hx hd ne => by
    obtain ⟨v, w, rfl, a, b⟩ := r.two'
    have st2 := step_ins (o := .ins C dx [(f, v), (g', w)]) st.bh hx hd ne
    refine ⟨x, dx, v, w, rfl, upd_same, rfl, ?_⟩
    rw [upd_upd]
    exact q _ _ _ (st.trans st2) (Ab.of (hφ _ x dx v w upd_same (a.1.grow a.2 st2.bb) (b.1.grow b.2 st2.bb))) (.no rfl)
end
end TG
set_option Elab.async false
set_option linter.all false
set_option maxRecDepth 100000
set_option maxHeartbeats 4000000
/-! W6: notes: what they claim, how they are made. -/
namespace TG
open PySem PySem.Spec PyProof.Rows L2
variable {P : Program} {w : World} {K : KF} {mg : Str → Option Value} {base : Heap}
def NtP : Nt → Pv
  | .any => fun B v => ∃ a dx, v = .ref a ∧ B a = some (.ins 290 dx [])
  | .made s => fun B v => ∃ a dx, v = .ref a ∧ B a = some (.ins 330 dx [("stuff", .str s)])
  | .used s => fun B v => ∃ a dx, v = .ref a ∧ B a = some (.ins 370 dx [("use", .str s)])
  | .chief s => fun B v => ∃ a dx, v = .ref a ∧ B a = some (.ins 410 dx [("stuff", .str s)])
  | .over x y => fun B v => ∃ a dx v1 v2, v = .ref a ∧ B a = some (.ins 443 dx [("one", v1), ("other", v2)]) ∧ RpK .an B v1 (kD x) ∧ RpK .an B v2 (kD y)
  | .both n m => fun B v => ∃ a dx v1 v2, v = .ref a ∧ B a = some (.ins 483 dx [("one", v1), ("other", v2)]) ∧ Ab (NtP n) B v1 ∧ Ab (NtP m) B v2
  | .either n m => fun B v => ∃ a dx v1 v2, v = .ref a ∧ B a = some (.ins 523 dx [("one", v1), ("other", v2)]) ∧ Ab (NtP n) B v1 ∧ Ab (NtP m) B v2
  | .but n m => fun B v => ∃ a dx v1 v2, v = .ref a ∧ B a = some (.ins 563 dx [("one", v1), ("other", v2)]) ∧ Ab (NtP n) B v1 ∧ Ab (NtP m) B v2
def clsOf : Nt → Addr
  | .any => 290 | .made _ => 330 | .used _ => 370 | .chief _ => 410 | .over _ _ => 443 | .both _ _ => 483 | .either _ _ => 523 | .but _ _ => 563
def mtOf : Nt → Addr
  | .any => 280 | .made _ => 313 | .used _ => 353 | .chief _ => 393 | .over _ _ => 433 | .both _ _ => 466 | .either _ _ => 506 | .but _ _ => 546
theorem nc (T : Txt K mg) (n : Nt) : Cls K (clsOf n) := by
  cases n
  · exact c_Anything T
  · exact c_Made T
  · exact c_Used T
  · exact c_Chief T
  · exact c_Over T
  · exact c_Both T
  · exact c_Either T
  · exact c_But T
theorem nm (T : Txt K mg) (n : Nt) : Meth K (clsOf n) "claims" (mtOf n) := by
  cases n
  · exact m_Anything_claims T
  · exact m_Made_claims T
  · exact m_Used_claims T
  · exact m_Chief_claims T
  · exact m_Over_claims T
  · exact m_Both_claims T
  · exact m_Either_claims T
  · exact m_But_claims T
theorem nb (T : Txt K mg) (n : Nt) : Binds K (fdOf K (mtOf n)) ["self", "kinds", "look"] [] := by
  cases n
  · exact b_Anythingclaims T
  · exact b_Madeclaims T
  · exact b_Usedclaims T
  · exact b_Chiefclaims T
  · exact b_Overclaims T
  · exact b_Bothclaims T
  · exact b_Eitherclaims T
  · exact b_Butclaims T
theorem nr (n : Nt) : Rcv (NtP n) (clsOf n) "claims" := fun B v h => by
  cases n with
  | any => obtain ⟨a, dx, rfl, h⟩ := h; exact ⟨a, dx, _, rfl, h, rfl⟩
  | made s => obtain ⟨a, dx, rfl, h⟩ := h; exact ⟨a, dx, _, rfl, h, rfl⟩
  | used s => obtain ⟨a, dx, rfl, h⟩ := h; exact ⟨a, dx, _, rfl, h, rfl⟩
  | chief s => obtain ⟨a, dx, rfl, h⟩ := h; exact ⟨a, dx, _, rfl, h, rfl⟩
  | over x y => obtain ⟨a, dx, v1, v2, rfl, h, _⟩ := h; exact ⟨a, dx, _, rfl, h, rfl⟩
  | both x y => obtain ⟨a, dx, v1, v2, rfl, h, _⟩ := h; exact ⟨a, dx, _, rfl, h, rfl⟩
  | either x y => obtain ⟨a, dx, v1, v2, rfl, h, _⟩ := h; exact ⟨a, dx, _, rfl, h, rfl⟩
  | but x y => obtain ⟨a, dx, v1, v2, rfl, h, _⟩ := h; exact ⟨a, dx, _, rfl, h, rfl⟩
theorem nref (n : Nt) (B : Hp) (v : V) (h : NtP n B v) : ∃ a, v = .ref a := by
  obtain ⟨a, _, _, e, _⟩ := nr n B v h
  exact ⟨a, e⟩
abbrev Pcl (n : Nt) : Prom := fun ss s => ∃ (κ : TK) (ks : List Knd) (look : List Int), ss = [.ab (NtP n), dL (ksL ks), .d (.tuple (iL look)) κ] ∧ look.length = ks.length ∧ 1 ≤ ks.length ∧ ks.length ≤ 1000 ∧ (∀ k ∈ ks, kOk k) ∧ n.ok = true ∧ s = dB (n.cl ks look)
theorem isNon_opt (o : Option Nat) : (!isNonD (optD o)) = o.isSome := by cases o <;> rfl
theorem ok_Anythingclaims (T : Txt K mg) : FnOk P w K mg base CX0 2 280 (fdOf K 280) ["self", "kinds", "look"] (spD (Pcl .any) noX) := by
  refine Fun.okD (f_Anythingclaims T) sc_Anythingclaims (fun ss s ⟨_, _, _, h, _⟩ => by rw [h]; rfl) fun cdv A outer h H E hr ss s ⟨κ, ks, look, hs, hl, h1, hk, ho, hn, hv⟩ => ?_
  subst hs hv
  exact ⟨_, (pss_one (ps_ret pe_bl)), fun B0 H0 => ws_ret ev_bl rfl⟩
theorem fl_Made (s : Str) : Fld (NtP (.made s)) 330 "stuff" (dS s) := fun B v h => by
  obtain ⟨a, dx, rfl, h⟩ := h
  exact ⟨a, dx, _, _, rfl, h, rfl, RpK.str s⟩
theorem ok_Madeclaims (T : Txt K mg) (n : Str) : FnOk P w K mg base CX0 2 313 (fdOf K 313) ["self", "kinds", "look"] (spD (Pcl (.made n)) noX) := by
  refine Fun.okD (f_Madeclaims T) sc_Madeclaims (fun ss s ⟨_, _, _, h, _⟩ => by rw [h]; rfl) fun cdv A outer h H E hr ss s ⟨κ, ks, look, hs, hl, h1, hk, ho, hn, hv⟩ => ?_
  have hu65 := hu65_of hr
  subst hs hv
  refine ⟨_, (pss_one (ps_ret (pe_cmpR op_notN (pe_call (ok_firstat T) (hr.mono (by decide)) rfl (g_firstat T) (f_firstat T).kp (b_firstat T) .nil pass0 (pa_cons (pv 1) (pa_cons (pv 2) (pa_cons pe_int (pa_cons (pe_fld (pv 0) rfl) (pa_cons pe_int pa_nil)))))) pe_non (nomark _)))), fun B0 H0 => ws_ret ((ev_notN (ev_call (ea_cons (ev_var rfl) (ea_cons (ev_var rfl) (ea_cons ev_int (ea_cons (ev_fld (ev_var rfl) (c_Made T) (n_Made_stuff T) (fl_Made n)) (ea_cons ev_int ea_nil))))) ⟨κ, ks, look, false, n, 1, rfl, hl, hk, rfl⟩)).is ?_) rfl⟩
  rw [isNon_opt]; rfl
theorem fl_Used (s : Str) : Fld (NtP (.used s)) 370 "use" (dS s) := fun B v h => by
  obtain ⟨a, dx, rfl, h⟩ := h
  exact ⟨a, dx, _, _, rfl, h, rfl, RpK.str s⟩
theorem ok_Usedclaims (T : Txt K mg) (n : Str) : FnOk P w K mg base CX0 2 353 (fdOf K 353) ["self", "kinds", "look"] (spD (Pcl (.used n)) noX) := by
  refine Fun.okD (f_Usedclaims T) sc_Usedclaims (fun ss s ⟨_, _, _, h, _⟩ => by rw [h]; rfl) fun cdv A outer h H E hr ss s ⟨κ, ks, look, hs, hl, h1, hk, ho, hn, hv⟩ => ?_
  have hu65 := hu65_of hr
  subst hs hv
  refine ⟨_, (pss_one (ps_ret (pe_cmpR op_notN (pe_call (ok_firstat T) (hr.mono (by decide)) rfl (g_firstat T) (f_firstat T).kp (b_firstat T) .nil pass0 (pa_cons (pv 1) (pa_cons (pv 2) (pa_cons pe_int (pa_cons (pe_fld (pv 0) rfl) (pa_cons pe_int pa_nil)))))) pe_non (nomark _)))), fun B0 H0 => ws_ret ((ev_notN (ev_call (ea_cons (ev_var rfl) (ea_cons (ev_var rfl) (ea_cons ev_int (ea_cons (ev_fld (ev_var rfl) (c_Used T) (n_Used_use T) (fl_Used n)) (ea_cons ev_int ea_nil))))) ⟨κ, ks, look, true, n, 1, rfl, hl, hk, rfl⟩)).is ?_) rfl⟩
  rw [isNon_opt]; rfl
theorem maxev {κ : TK} {Γ : Cxt} {te : TE} {look : List Int} (hn : 1 ≤ look.length) (h : EvS te Γ (.d (.tuple (iL look)) κ)) : EvS (tCB (rMaxT K) (tCons te tNil)) Γ (dI (maxL look)) := by
  cases look with
  | nil => simp at hn
  | cons x l => exact ev_maxT h
theorem fl_Chief (s : Str) : Fld (NtP (.chief s)) 410 "stuff" (dS s) := fun B v h => by
  obtain ⟨a, dx, rfl, h⟩ := h
  exact ⟨a, dx, _, _, rfl, h, rfl, RpK.str s⟩
theorem ok_Chiefclaims (T : Txt K mg) (n : Str) : FnOk P w K mg base CX0 2 393 (fdOf K 393) ["self", "kinds", "look"] (spD (Pcl (.chief n)) noX) := by
  refine Fun.okD (f_Chiefclaims T) sc_Chiefclaims (fun ss s ⟨_, _, _, h, _⟩ => by rw [h]; rfl) fun cdv A outer h H E hr ss s ⟨κ, ks, look, hs, hl, h1, hk, ho, hn, hv⟩ => ?_
  have hu65 := hu65_of hr
  subst hs hv
  refine ⟨_, (pss_one (ps_ret (pe_cmpR op_notN (pe_call (ok_firstat T) (hr.mono (by decide)) rfl (g_firstat T) (f_firstat T).kp (b_firstat T) .nil pass0 (pa_cons (pv 1) (pa_cons (pv 2) (pa_cons pe_int (pa_cons (pe_fld (pv 0) rfl) (pa_cons (pe_callB (cr_maxT rfl hu65) rfl (z_max T) (by decide +kernel) (pa_cons (pv 2) pa_nil)) pa_nil)))))) pe_non (nomark _)))), fun B0 H0 => ws_ret ((ev_notN (ev_call (ea_cons (ev_var rfl) (ea_cons (ev_var rfl) (ea_cons ev_int (ea_cons (ev_fld (ev_var rfl) (c_Chief T) (n_Chief_stuff T) (fl_Chief n)) (ea_cons (maxev (by omega) (ev_var rfl)) ea_nil))))) ⟨κ, ks, look, false, n, maxL look, rfl, hl, hk, rfl⟩)).is ?_) rfl⟩
  rw [isNon_opt]; rfl
theorem fl_Over1 (x y : Knd) : Fld (NtP (.over x y)) 443 "one" (.d (kD x) .an) := fun B v h => by
  obtain ⟨a, dx, v1, v2, rfl, h, h1, h2⟩ := h
  exact ⟨a, dx, _, v1, rfl, h, rfl, h1⟩
theorem fl_Over2 (x y : Knd) : Fld (NtP (.over x y)) 443 "other" (.d (kD y) .an) := fun B v h => by
  obtain ⟨a, dx, v1, v2, rfl, h, h1, h2⟩ := h
  exact ⟨a, dx, _, v2, rfl, h, rfl, h2⟩
theorem ok_Overclaims (T : Txt K mg) (x y : Knd) : FnOk P w K mg base CX0 2 433 (fdOf K 433) ["self", "kinds", "look"] (spD (Pcl (.over x y)) noX) := by
  refine Fun.okD (f_Overclaims T) sc_Overclaims (fun ss s ⟨_, _, _, h, _⟩ => by rw [h]; rfl) fun cdv A outer h H E hr ss s ⟨κ, ks, look, hs, hl, h1, hk, ho, hn, hv⟩ => ?_
  subst hs hv
  have hxy : kndB x = true ∧ kndB y = true := by simpa [Nt.ok] using hn
  exact ⟨_, (pss_one (ps_ret (pe_cmpR op_gt (pe_call (ok_rankof T) (hr.mono (by decide)) rfl (g_rankof T) (f_rankof T).kp (b_rankof T) .nil pass0 (pa_cons (pv 1) (pa_cons (pv 2) (pa_cons (pe_fld (pv 0) rfl) pa_nil)))) (pe_call (ok_rankof T) (hr.mono (by decide)) rfl (g_rankof T) (f_rankof T).kp (b_rankof T) .nil pass0 (pa_cons (pv 1) (pa_cons (pv 2) (pa_cons (pe_fld (pv 0) rfl) pa_nil)))) (nomark _)))), fun B0 H0 => ws_ret (ev_gt (ev_call (ea_cons (ev_var rfl) (ea_cons (ev_var rfl) (ea_cons (ev_fld (ev_var rfl) (c_Over T) (n_Over_one T) (fl_Over1 x y)) ea_nil))) ⟨κ, .an, ks, look, x, rfl, hl, hk, ho, ok_knd hxy.1, rfl⟩)
    (ev_call (ea_cons (ev_var rfl) (ea_cons (ev_var rfl) (ea_cons (ev_fld (ev_var rfl) (c_Over T) (n_Over_other T) (fl_Over2 x y)) ea_nil))) ⟨κ, .an, ks, look, y, rfl, hl, hk, ho, ok_knd hxy.2, rfl⟩)) rfl⟩
theorem fl_Both1 (x y : Nt) : Fld (NtP (.both x y)) 483 "one" (.ab (NtP x)) := fun B v h => by
  obtain ⟨a, dx, v1, v2, rfl, h, h1, h2⟩ := h
  exact ⟨a, dx, _, v1, rfl, h, rfl, h1⟩
theorem fl_Both2 (x y : Nt) : Fld (NtP (.both x y)) 483 "other" (.ab (NtP y)) := fun B v h => by
  obtain ⟨a, dx, v1, v2, rfl, h, h1, h2⟩ := h
  exact ⟨a, dx, _, v2, rfl, h, rfl, h2⟩
theorem ok_Bothclaims (T : Txt K mg) (x y : Nt) {i j : Nat} (Fx : FnOk P w K mg base CX0 i (mtOf x) (fdOf K (mtOf x)) ["self", "kinds", "look"] (spD (Pcl x) noX)) (Fy : FnOk P w K mg base CX0 j (mtOf y) (fdOf K (mtOf y)) ["self", "kinds", "look"] (spD (Pcl y) noX)) :
    FnOk P w K mg base CX0 (max i j + 1) 466 (fdOf K 466) ["self", "kinds", "look"] (spD (Pcl (.both x y)) noX) := by
  refine Fun.okD (f_Bothclaims T) sc_Bothclaims (fun ss s ⟨_, _, _, h, _⟩ => by rw [h]; rfl) fun cdv A outer h H E hr ss s ⟨κ, ks, look, hs, hl, h1, hk, ho, hn, hv⟩ => ?_
  subst hs hv
  have hxy : x.ok = true ∧ y.ok = true := by simpa [Nt.ok] using hn
  exact ⟨_, (pss_one (ps_ret (pe_and (pe_meth (pe_fld (pv 0) rfl) (nc T x) (nm T x) Fx (hr.mono (Nat.le_max_left _ _)) (nb T x) .nil pass0 (pa_cons (pv 1) (pa_cons (pv 2) pa_nil))) (pe_one (pe_meth (pe_fld (pv 0) rfl) (nc T y) (nm T y) Fy (hr.mono (Nat.le_max_right _ _)) (nb T y) .nil pass0 (pa_cons (pv 1) (pa_cons (pv 2) pa_nil))))))), fun B0 H0 => ws_ret (ev_andV (ev_meth (ev_fld (ev_var rfl) (c_Both T) (n_Both_one T) (fl_Both1 x y)) (nr x) (ea_cons (ev_var rfl) (ea_cons (ev_var rfl) ea_nil)) ⟨κ, ks, look, rfl, hl, h1, hk, ho, hxy.1, rfl⟩) fun _ => (ev_meth (ev_fld (ev_var rfl) (c_Both T) (n_Both_other T) (fl_Both2 x y)) (nr y) (ea_cons (ev_var rfl) (ea_cons (ev_var rfl) ea_nil)) ⟨κ, ks, look, rfl, hl, h1, hk, ho, hxy.2, rfl⟩)) rfl⟩
theorem fl_Either1 (x y : Nt) : Fld (NtP (.either x y)) 523 "one" (.ab (NtP x)) := fun B v h => by
  obtain ⟨a, dx, v1, v2, rfl, h, h1, h2⟩ := h
  exact ⟨a, dx, _, v1, rfl, h, rfl, h1⟩
theorem fl_Either2 (x y : Nt) : Fld (NtP (.either x y)) 523 "other" (.ab (NtP y)) := fun B v h => by
  obtain ⟨a, dx, v1, v2, rfl, h, h1, h2⟩ := h
  exact ⟨a, dx, _, v2, rfl, h, rfl, h2⟩
theorem ok_Eitherclaims (T : Txt K mg) (x y : Nt) {i j : Nat} (Fx : FnOk P w K mg base CX0 i (mtOf x) (fdOf K (mtOf x)) ["self", "kinds", "look"] (spD (Pcl x) noX)) (Fy : FnOk P w K mg base CX0 j (mtOf y) (fdOf K (mtOf y)) ["self", "kinds", "look"] (spD (Pcl y) noX)) :
    FnOk P w K mg base CX0 (max i j + 1) 506 (fdOf K 506) ["self", "kinds", "look"] (spD (Pcl (.either x y)) noX) := by
  refine Fun.okD (f_Eitherclaims T) sc_Eitherclaims (fun ss s ⟨_, _, _, h, _⟩ => by rw [h]; rfl) fun cdv A outer h H E hr ss s ⟨κ, ks, look, hs, hl, h1, hk, ho, hn, hv⟩ => ?_
  subst hs hv
  have hxy : x.ok = true ∧ y.ok = true := by simpa [Nt.ok] using hn
  exact ⟨_, (pss_one (ps_ret (pe_or (pe_meth (pe_fld (pv 0) rfl) (nc T x) (nm T x) Fx (hr.mono (Nat.le_max_left _ _)) (nb T x) .nil pass0 (pa_cons (pv 1) (pa_cons (pv 2) pa_nil))) (pe_one (pe_meth (pe_fld (pv 0) rfl) (nc T y) (nm T y) Fy (hr.mono (Nat.le_max_right _ _)) (nb T y) .nil pass0 (pa_cons (pv 1) (pa_cons (pv 2) pa_nil))))))), fun B0 H0 => ws_ret (ev_orV (ev_meth (ev_fld (ev_var rfl) (c_Either T) (n_Either_one T) (fl_Either1 x y)) (nr x) (ea_cons (ev_var rfl) (ea_cons (ev_var rfl) ea_nil)) ⟨κ, ks, look, rfl, hl, h1, hk, ho, hxy.1, rfl⟩) fun _ => (ev_meth (ev_fld (ev_var rfl) (c_Either T) (n_Either_other T) (fl_Either2 x y)) (nr y) (ea_cons (ev_var rfl) (ea_cons (ev_var rfl) ea_nil)) ⟨κ, ks, look, rfl, hl, h1, hk, ho, hxy.2, rfl⟩)) rfl⟩
theorem fl_But1 (x y : Nt) : Fld (NtP (.but x y)) 563 "one" (.ab (NtP x)) := fun B v h => by
  obtain ⟨a, dx, v1, v2, rfl, h, h1, h2⟩ := h
  exact ⟨a, dx, _, v1, rfl, h, rfl, h1⟩
theorem fl_But2 (x y : Nt) : Fld (NtP (.but x y)) 563 "other" (.ab (NtP y)) := fun B v h => by
  obtain ⟨a, dx, v1, v2, rfl, h, h1, h2⟩ := h
  exact ⟨a, dx, _, v2, rfl, h, rfl, h2⟩
theorem ok_Butclaims (T : Txt K mg) (x y : Nt) {i j : Nat} (Fx : FnOk P w K mg base CX0 i (mtOf x) (fdOf K (mtOf x)) ["self", "kinds", "look"] (spD (Pcl x) noX)) (Fy : FnOk P w K mg base CX0 j (mtOf y) (fdOf K (mtOf y)) ["self", "kinds", "look"] (spD (Pcl y) noX)) :
    FnOk P w K mg base CX0 (max i j + 1) 546 (fdOf K 546) ["self", "kinds", "look"] (spD (Pcl (.but x y)) noX) := by
  refine Fun.okD (f_Butclaims T) sc_Butclaims (fun ss s ⟨_, _, _, h, _⟩ => by rw [h]; rfl) fun cdv A outer h H E hr ss s ⟨κ, ks, look, hs, hl, h1, hk, ho, hn, hv⟩ => ?_
  subst hs hv
  have hxy : x.ok = true ∧ y.ok = true := by simpa [Nt.ok] using hn
  exact ⟨_, (pss_one (ps_ret (pe_and (pe_meth (pe_fld (pv 0) rfl) (nc T x) (nm T x) Fx (hr.mono (Nat.le_max_left _ _)) (nb T x) .nil pass0 (pa_cons (pv 1) (pa_cons (pv 2) pa_nil))) (pe_one (pe_not (pe_meth (pe_fld (pv 0) rfl) (nc T y) (nm T y) Fy (hr.mono (Nat.le_max_right _ _)) (nb T y) .nil pass0 (pa_cons (pv 1) (pa_cons (pv 2) pa_nil)))))))), fun B0 H0 => ws_ret (ev_andV (ev_meth (ev_fld (ev_var rfl) (c_But T) (n_But_one T) (fl_But1 x y)) (nr x) (ea_cons (ev_var rfl) (ea_cons (ev_var rfl) ea_nil)) ⟨κ, ks, look, rfl, hl, h1, hk, ho, hxy.1, rfl⟩) fun _ => ev_notV (ev_meth (ev_fld (ev_var rfl) (c_But T) (n_But_other T) (fl_But2 x y)) (nr y) (ea_cons (ev_var rfl) (ea_cons (ev_var rfl) ea_nil)) ⟨κ, ks, look, rfl, hl, h1, hk, ho, hxy.2, rfl⟩)) rfl⟩
theorem ok_claims (T : Txt K mg) : ∀ n : Nt, FnOk P w K mg base CX0 (n.dep + 1) (mtOf n) (fdOf K (mtOf n)) ["self", "kinds", "look"] (spD (Pcl n) noX)
  | .any => ok_Anythingclaims T
  | .made s => ok_Madeclaims T s
  | .used s => ok_Usedclaims T s
  | .chief s => ok_Chiefclaims T s
  | .over x y => ok_Overclaims T x y
  | .both x y => (ok_Bothclaims T x y (ok_claims T x) (ok_claims T y)).mono (by simp only [Nt.dep]; omega)
  | .either x y => (ok_Eitherclaims T x y (ok_claims T x) (ok_claims T y)).mono (by simp only [Nt.dep]; omega)
  | .but x y => (ok_Butclaims T x y (ok_claims T x) (ok_claims T y)).mono (by simp only [Nt.dep]; omega)
end TG
set_option Elab.async false
set_option linter.all false
set_option maxRecDepth 100000
set_option maxHeartbeats 4000000
/-! W7: notes made of tuples. -/
namespace TG
open PySem PySem.Spec PyProof.Rows L2
variable {P : Program} {w : World} {K : KF} {mg : Str → Option Value} {base : Heap}
section
variable {Γ : Cxt} {te ta tb : TE} {t u : TT} {s : Sl} {x y : Str}
theorem et_eqF (h : EvS te Γ (dS x)) (n : x ≠ y) : EvT (tTest (tOp rEq te (tC (.str y)))) Γ false := (et_test (ev_eqS h ev_str)).is (decide_eq_false n)
theorem et_eqT (h : EvS te Γ (dS x)) (n : x = y) : EvT (tTest (tOp rEq te (tC (.str y)))) Γ true := (et_test (ev_eqS h ev_str)).is (decide_eq_true n)
theorem et_eqiF {i j : Int} (h : EvS te Γ (dI i)) (n : i ≠ j) : EvT (tTest (tOp rEq te (tC (.int j)))) Γ false := (et_test (ev_eqI h ev_int)).is (decide_eq_false n)
theorem et_eqiT {i j : Int} (h : EvS te Γ (dI i)) (n : i = j) : EvT (tTest (tOp rEq te (tC (.int j)))) Γ true := (et_test (ev_eqI h ev_int)).is (decide_eq_true n)
theorem et_andF (h : EvT t Γ false) : EvT (tAnd t u) Γ false := (et_and (b := false) h fun e => by cases e)
theorem et_andT {b : Bool} (h : EvT t Γ true) (h2 : EvT u Γ b) : EvT (tAnd t u) Γ b := (et_and h fun _ => h2).is rfl
theorem et_orF {b : Bool} (h : EvT t Γ false) (h2 : EvT u Γ b) : EvT (tOr t u) Γ b := (et_or h fun _ => h2).is rfl
theorem et_notT (h : EvT t Γ true) : EvT (tNot t) Γ false := et_not h
theorem et_valT (h : EvS te Γ (dB true)) : EvT (tB te) Γ true := et_B h
/-- is None of an instance -/
theorem ev_isNab {φ : Pv} (h : EvS te Γ (.ab φ)) (hφ : ∀ B v, φ B v → ∃ a, v = .ref a) : EvS (tOp (fun x y H Q => y = .non ∧ Q (.bl (decide (x = .non))) H) te (tC .non)) Γ (dB false) := fun B H σ Q g q =>
  h B H σ _ g fun v B1 H1 st r _ => ⟨rfl, by
    obtain ⟨B0, e0, p⟩ := r
    obtain ⟨a, rfl⟩ := hφ _ _ p
    exact q _ B1 H1 st (RpK.bl false) (.no rfl)⟩
end
theorem ok_Madeinit (T : Txt K mg) : FnOk P w K mg base CX0 1 306 (fdOf K 306) ["self", "stuff"] (spI1 330 "stuff") := Fun.okI1 (f_Madeinit T) sc_Madeinit rfl rfl (c_Made T) (n_Made_stuff T) fun cdv A outer h H E => (pss_one (ps_fld (pv 0) (pv 1) rfl))
theorem ok_Usedinit (T : Txt K mg) : FnOk P w K mg base CX0 1 346 (fdOf K 346) ["self", "use"] (spI1 370 "use") := Fun.okI1 (f_Usedinit T) sc_Usedinit rfl rfl (c_Used T) (n_Used_use T) fun cdv A outer h H E => (pss_one (ps_fld (pv 0) (pv 1) rfl))
theorem ok_Chiefinit (T : Txt K mg) : FnOk P w K mg base CX0 1 386 (fdOf K 386) ["self", "stuff"] (spI1 410 "stuff") := Fun.okI1 (f_Chiefinit T) sc_Chiefinit rfl rfl (c_Chief T) (n_Chief_stuff T) fun cdv A outer h H E => (pss_one (ps_fld (pv 0) (pv 1) rfl))
theorem ok_Overinit (T : Txt K mg) : FnOk P w K mg base CX0 1 426 (fdOf K 426) ["self", "one", "other"] (spI2 443 "one" "other") := Fun.okI2 (f_Overinit T) sc_Overinit rfl (c_Over T) (n_Over_one T) (n_Over_other T) (by decide +kernel) fun cdv A outer h H E => (pss_cons (ps_fld (pv 0) (pv 1) rfl)
      (pss_one (ps_fld (pv 0) (pv 2) rfl)))
theorem ok_Bothinit (T : Txt K mg) : FnOk P w K mg base CX0 1 459 (fdOf K 459) ["self", "one", "other"] (spI2 483 "one" "other") := Fun.okI2 (f_Bothinit T) sc_Bothinit rfl (c_Both T) (n_Both_one T) (n_Both_other T) (by decide +kernel) fun cdv A outer h H E => (pss_cons (ps_fld (pv 0) (pv 1) rfl)
      (pss_one (ps_fld (pv 0) (pv 2) rfl)))
theorem ok_Eitherinit (T : Txt K mg) : FnOk P w K mg base CX0 1 499 (fdOf K 499) ["self", "one", "other"] (spI2 523 "one" "other") := Fun.okI2 (f_Eitherinit T) sc_Eitherinit rfl (c_Either T) (n_Either_one T) (n_Either_other T) (by decide +kernel) fun cdv A outer h H E => (pss_cons (ps_fld (pv 0) (pv 1) rfl)
      (pss_one (ps_fld (pv 0) (pv 2) rfl)))
theorem ok_Butinit (T : Txt K mg) : FnOk P w K mg base CX0 1 539 (fdOf K 539) ["self", "one", "other"] (spI2 563 "one" "other") := Fun.okI2 (f_Butinit T) sc_Butinit rfl (c_But T) (n_But_one T) (n_But_other T) (by decide +kernel) fun cdv A outer h H E => (pss_cons (ps_fld (pv 0) (pv 1) rfl)
      (pss_one (ps_fld (pv 0) (pv 2) rfl)))
def plainN : Nt → Bool
  | .both _ _ => false
  | .either _ _ => false
  | .but _ _ => false
  | _ => true
theorem name_len {x : Str} (h : nameB x = true) : x.length ≤ 100000 := by
  unfold nameB at h
  simp only [Bool.and_eq_true, decide_eq_true_eq] at h
  show x.cps.size ≤ 100000
  omega
theorem ok_plainof (T : Txt K mg) : FnOk P w K mg base CX0 3 579 (fdOf K 579) ["told"] (spD (fun ss s => ∃ (κ : TK) (n : Nt), ss = [.d n.enc κ] ∧ plainN n = true ∧ n.ok = true ∧ s = .ab (NtP n)) noX) := by
  refine Fun.okD (f_plainof T) sc_plainof (fun ss s ⟨_, _, h, _⟩ => by rw [h]; rfl) fun cdv A outer h H E hr ss s ⟨κ, n, hs, hp, ho, hv⟩ => ?_
  subst hs hv
  refine ⟨_, (pss_cons (ps_set (i := 1) sc_plainof.nd rfl (Or.inl rfl) (pe_ix ix_tup (pv 0) pe_int (fun _ _ => rfl)))
      (pss_cons (ps_if (PW.pt (pw_and (pt_cmpR op_eq (pv 1) pe_str (nomark _)) (pw_and1 (pt_cmpR op_eq (pe_callB call_len rfl (z_len T) PySem.boot_len (pa_cons (pv 0) pa_nil)) pe_int (nomark _))))) (pss_one (ps_ret (pe_new0 (k_Anything T) rfl (g_Anything T)))) pss_nil)
      (pss_cons (ps_if (PW.pt (pw_and (pt_cmpR op_eq (pv 1) pe_str (nomark _)) (pw_and (pt_cmpR op_eq (pe_callB call_len rfl (z_len T) PySem.boot_len (pa_cons (pv 0) pa_nil)) pe_int (nomark _)) (pw_and (pt_val (pe_call (ok_ispair T) (hr.mono (by decide)) rfl (g_ispair T) (f_ispair T).kp (b_ispair T) .nil pass0 (pa_cons (pe_ix ix_tup (pv 0) pe_int (fun _ _ => rfl)) pa_nil))) (pw_and1 (pt_val (pe_call (ok_ispair T) (hr.mono (by decide)) rfl (g_ispair T) (f_ispair T).kp (b_ispair T) .nil pass0 (pa_cons (pe_ix ix_tup (pv 0) pe_int (fun _ _ => rfl)) pa_nil)))))))) (pss_one (ps_ret (pe_make (k_Over T) (ok_Overinit T) (hr.mono (by decide)) rfl (g_Over T) (b_Overinit T) .nil pass0 (pa_cons (pe_ix ix_tup (pv 0) pe_int (fun _ _ => rfl)) (pa_cons (pe_ix ix_tup (pv 0) pe_int (fun _ _ => rfl)) pa_nil))))) pss_nil)
      (pss_cons (ps_if (PW.pt (pw_or (pt_cmpR op_ne (pe_callB call_len rfl (z_len T) PySem.boot_len (pa_cons (pv 0) pa_nil)) pe_int (nomark _)) (pw_or1 (pt_not (pt_val (pe_call (ok_isname T) (hr.mono (by decide)) rfl (g_isname T) (f_isname T).kp (b_isname T) .nil pass0 (pa_cons (pe_ix ix_tup (pv 0) pe_int (fun _ _ => rfl)) pa_nil))))))) (pss_one (ps_ret pe_non)) pss_nil)
      (pss_cons (ps_if (pt_cmpR op_eq (pv 1) pe_str (nomark _)) (pss_one (ps_ret (pe_make (k_Made T) (ok_Madeinit T) (hr.mono (by decide)) rfl (g_Made T) (b_Madeinit T) .nil pass0 (pa_cons (pe_ix ix_tup (pv 0) pe_int (fun _ _ => rfl)) pa_nil)))) pss_nil)
      (pss_cons (ps_if (pt_cmpR op_eq (pv 1) pe_str (nomark _)) (pss_one (ps_ret (pe_make (k_Used T) (ok_Usedinit T) (hr.mono (by decide)) rfl (g_Used T) (b_Usedinit T) .nil pass0 (pa_cons (pe_ix ix_tup (pv 0) pe_int (fun _ _ => rfl)) pa_nil)))) pss_nil)
      (pss_cons (ps_if (pt_cmpR op_eq (pv 1) pe_str (nomark _)) (pss_one (ps_ret (pe_make (k_Chief T) (ok_Chiefinit T) (hr.mono (by decide)) rfl (g_Chief T) (b_Chiefinit T) .nil pass0 (pa_cons (pe_ix ix_tup (pv 0) pe_int (fun _ _ => rfl)) pa_nil)))) pss_nil)
      (pss_one (ps_ret pe_non))))))))), fun B0 H0 => ?_⟩
  cases n with
  | both _ _ => cases hp
  | either _ _ => cases hp
  | but _ _ => cases hp
  | any =>
    refine ws_seq (ws_asg (s := dS "any") (ev_sc (ev_ixT (ds := [.str "any"]) (ev_var rfl) ev_int rfl)) ?_)
    exact ws_seq (ws_if (et_andT (et_eqT (ev_var rfl) rfl) (et_eqiT (ev_lenT (ds := [.str "any"]) (ev_var rfl)) rfl)) (fun _ => ws_ret (ev_make0 fun B x dx h => ⟨x, dx, rfl, h⟩) rfl) fun h => by cases h)
  | over x y =>
    have hxy : kndB x = true ∧ kndB y = true := by simpa [Nt.ok] using ho
    have hx := hxy.1
    have hy := hxy.2
    unfold kndB at hx hy
    simp only [Bool.and_eq_true] at hx hy
    have ex : EvS (tOp (rIxT K) (tVar 0) (tC (.int 1))) [some (.d (.tuple [.str "over", kD x, kD y]) κ), some (dS "over")] (.d (kD x) κ) := ev_ixT (ds := [.str "over", kD x, kD y]) (ev_var rfl) ev_int rfl
    have ey : EvS (tOp (rIxT K) (tVar 0) (tC (.int 2))) [some (.d (.tuple [.str "over", kD x, kD y]) κ), some (dS "over")] (.d (kD y) κ) := ev_ixT (ds := [.str "over", kD x, kD y]) (ev_var rfl) ev_int rfl
    refine ws_seq (ws_asg (s := dS "over") (ev_sc (ev_ixT (ds := [.str "over", kD x, kD y]) (ev_var rfl) ev_int rfl)) ?_)
    refine ws_seq (ws_if (et_andF (et_eqF (ev_var rfl) (by decide +kernel))) (fun h => by cases h) fun _ => ws_next ?_)
    refine ws_seq (ws_if (et_andT (et_eqT (ev_var rfl) rfl) (et_andT (et_eqiT (ev_lenT (ds := [.str "over", kD x, kD y]) (ev_var rfl)) rfl) (et_andT (et_valT (ev_call (ea_cons ex ea_nil) ⟨κ, x, rfl, name_len hx.1, name_len hx.2, by rw [hxy.1]⟩)) (et_valT (ev_call (ea_cons ey ea_nil) ⟨κ, y, rfl, name_len hy.1, name_len hy.2, by rw [hxy.2]⟩))))) (fun _ => ws_ret (s := .ab (NtP (.over x y))) (ev_make2 (ea_cons (ev_any ex) (ea_cons (ev_any ey) ea_nil)) fun B a dx v1 v2 h h1 h2 => ⟨a, dx, v1, v2, rfl, h, h1, h2⟩) rfl) fun h => by cases h)
  | made n =>
    have hn : nameB n = true := ho
    have ex : EvS (tOp (rIxT K) (tVar 0) (tC (.int 1))) [some (.d (.tuple [.str "made", .str n]) κ), some (dS "made")] (dS n) := ev_sc (ev_ixT (ds := [.str "made", .str n]) (ev_var rfl) ev_int rfl)
    refine ws_seq (ws_asg (s := dS "made") (ev_sc (ev_ixT (ds := [.str "made", .str n]) (ev_var rfl) ev_int rfl)) ?_)
    refine ws_seq (ws_if (et_andF (et_eqF (ev_var rfl) (by decide +kernel))) (fun h => by cases h) fun _ => ws_next ?_)
    refine ws_seq (ws_if (et_andF (et_eqF (ev_var rfl) (by decide +kernel))) (fun h => by cases h) fun _ => ws_next ?_)
    refine ws_seq (ws_if (b := false) (et_orF ((et_test (ev_neI (ev_lenT (ds := [.str "made", .str n]) (ev_var rfl)) ev_int)).is rfl) (et_notT (et_valT (ev_call (ea_cons ex ea_nil) ⟨n, rfl, name_len hn, by rw [hn]⟩)))) (fun h => by cases h) fun _ => ws_next ?_)
    exact ws_seq (ws_if (et_eqT (ev_var rfl) rfl) (fun _ => ws_ret (s := .ab (NtP (.made n))) (ev_make1 (ea_cons ex ea_nil) fun B a dx v h h1 => ⟨a, dx, rfl, by rw [h]; cases h1; rfl⟩) rfl) fun h => by cases h)
  | used n =>
    have hn : nameB n = true := ho
    have ex : EvS (tOp (rIxT K) (tVar 0) (tC (.int 1))) [some (.d (.tuple [.str "used", .str n]) κ), some (dS "used")] (dS n) := ev_sc (ev_ixT (ds := [.str "used", .str n]) (ev_var rfl) ev_int rfl)
    refine ws_seq (ws_asg (s := dS "used") (ev_sc (ev_ixT (ds := [.str "used", .str n]) (ev_var rfl) ev_int rfl)) ?_)
    refine ws_seq (ws_if (et_andF (et_eqF (ev_var rfl) (by decide +kernel))) (fun h => by cases h) fun _ => ws_next ?_)
    refine ws_seq (ws_if (et_andF (et_eqF (ev_var rfl) (by decide +kernel))) (fun h => by cases h) fun _ => ws_next ?_)
    refine ws_seq (ws_if (b := false) (et_orF ((et_test (ev_neI (ev_lenT (ds := [.str "used", .str n]) (ev_var rfl)) ev_int)).is rfl) (et_notT (et_valT (ev_call (ea_cons ex ea_nil) ⟨n, rfl, name_len hn, by rw [hn]⟩)))) (fun h => by cases h) fun _ => ws_next ?_)
    refine ws_seq (ws_if (et_eqF (ev_var rfl) (by decide +kernel)) (fun h => by cases h) fun _ => ws_next ?_)
    exact ws_seq (ws_if (et_eqT (ev_var rfl) rfl) (fun _ => ws_ret (s := .ab (NtP (.used n))) (ev_make1 (ea_cons ex ea_nil) fun B a dx v h h1 => ⟨a, dx, rfl, by rw [h]; cases h1; rfl⟩) rfl) fun h => by cases h)
  | chief n =>
    have hn : nameB n = true := ho
    have ex : EvS (tOp (rIxT K) (tVar 0) (tC (.int 1))) [some (.d (.tuple [.str "chief", .str n]) κ), some (dS "chief")] (dS n) := ev_sc (ev_ixT (ds := [.str "chief", .str n]) (ev_var rfl) ev_int rfl)
    refine ws_seq (ws_asg (s := dS "chief") (ev_sc (ev_ixT (ds := [.str "chief", .str n]) (ev_var rfl) ev_int rfl)) ?_)
    refine ws_seq (ws_if (et_andF (et_eqF (ev_var rfl) (by decide +kernel))) (fun h => by cases h) fun _ => ws_next ?_)
    refine ws_seq (ws_if (et_andF (et_eqF (ev_var rfl) (by decide +kernel))) (fun h => by cases h) fun _ => ws_next ?_)
    refine ws_seq (ws_if (b := false) (et_orF ((et_test (ev_neI (ev_lenT (ds := [.str "chief", .str n]) (ev_var rfl)) ev_int)).is rfl) (et_notT (et_valT (ev_call (ea_cons ex ea_nil) ⟨n, rfl, name_len hn, by rw [hn]⟩)))) (fun h => by cases h) fun _ => ws_next ?_)
    refine ws_seq (ws_if (et_eqF (ev_var rfl) (by decide +kernel)) (fun h => by cases h) fun _ => ws_next ?_)
    refine ws_seq (ws_if (et_eqF (ev_var rfl) (by decide +kernel)) (fun h => by cases h) fun _ => ws_next ?_)
    exact ws_seq (ws_if (et_eqT (ev_var rfl) rfl) (fun _ => ws_ret (s := .ab (NtP (.chief n))) (ev_make1 (ea_cons ex ea_nil) fun B a dx v h h1 => ⟨a, dx, rfl, by rw [h]; cases h1; rfl⟩) rfl) fun h => by cases h)
abbrev Pma (n : Nt) : Prom := fun ss s => ∃ (κ : TK) (deep : Int), ss = [.d n.enc κ, dI deep] ∧ 1 ≤ deep ∧ deep + n.dep ≤ 6 ∧ n.ok = true ∧ s = .ab (NtP n)
theorem dep_pos (n : Nt) : 1 ≤ n.dep := by cases n <;> simp [Nt.dep]
theorem ok_madeatP (T : Txt K mg) (n : Nt) (hp : plainN n = true) : FnOk P w K mg base CX0 4 586 (fdOf K 586) ["told", "deep"] (spD (Pma n) noX) := by
  refine Fun.okD (f_madeat T) sc_madeat (fun ss s ⟨_, _, h, _⟩ => by rw [h]; rfl) fun cdv A outer h H E hr ss s ⟨κ, deep, hs, h1, h2, ho, hv⟩ => ?_
  subst hs hv
  refine ⟨_, (pss_cons (ps_if (PW.pt (pw_or (pt_cmpR op_gt (pv 1) (pe_gI rfl (i_DEEP T)) (nomark _)) (pw_or (pt_not (pt_val (pe_callB call_isi rfl (z_isinstance T) (by decide +kernel) (pa_cons (pv 0) (pa_cons (pe_ty (n := "tuple") rfl (z_tuple T) (by decide +kernel)) pa_nil))))) (pw_or (pt_cmpR op_eq (pe_callB call_len rfl (z_len T) PySem.boot_len (pa_cons (pv 0) pa_nil)) pe_int (nomark _)) (pw_or1 (pt_not (pt_val (pe_callB call_isi rfl (z_isinstance T) (by decide +kernel) (pa_cons (pe_ix ix_tup (pv 0) pe_int (fun _ _ => rfl)) (pa_cons (pe_ty (n := "str") rfl (z_str T) (by decide +kernel)) pa_nil)))))))))) (pss_one ps_never) pss_nil)
      (pss_cons (ps_if (PW.pt (pw_and (pt_cmpR op_eq (pe_callB call_len rfl (z_len T) PySem.boot_len (pa_cons (pv 0) pa_nil)) pe_int (nomark _)) (pw_and1 (pt_cmpR op_in_seq (pe_ix ix_tup (pv 0) pe_int (fun _ _ => rfl)) (pe_tup (pa_cons pe_str (pa_cons pe_str (pa_cons pe_str pa_nil)))) rfl)))) (pss_cons ps_never
      (pss_cons ps_never
      (pss_cons (ps_if (pt_cmpR op_eq (pe_ix ix_tup (pv 0) pe_int (fun _ _ => rfl)) pe_str (nomark _)) (pss_one (ps_ret (pe_make (k_Both T) (ok_Bothinit T) (hr.mono (by decide)) rfl (g_Both T) (b_Bothinit T) .nil pass0 (pa_cons (pv 2) (pa_cons (pv 3) pa_nil))))) pss_nil)
      (pss_cons (ps_if (pt_cmpR op_eq (pe_ix ix_tup (pv 0) pe_int (fun _ _ => rfl)) pe_str (nomark _)) (pss_one (ps_ret (pe_make (k_Either T) (ok_Eitherinit T) (hr.mono (by decide)) rfl (g_Either T) (b_Eitherinit T) .nil pass0 (pa_cons (pv 2) (pa_cons (pv 3) pa_nil))))) pss_nil)
      (pss_one (ps_ret (pe_make (k_But T) (ok_Butinit T) (hr.mono (by decide)) rfl (g_But T) (b_Butinit T) .nil pass0 (pa_cons (pv 2) (pa_cons (pv 3) pa_nil))))))))) pss_nil)
      (pss_cons (ps_set (i := 4) sc_madeat.nd rfl (Or.inl rfl) (pe_call (ok_plainof T) (hr.mono (by decide)) rfl (g_plainof T) (f_plainof T).kp (b_plainof T) .nil pass0 (pa_cons (pv 0) pa_nil)))
      (pss_cons (ps_if (pt_cmpR op_isN (pv 4) pe_non (nomark _)) (pss_one ps_never) pss_nil)
      (pss_one (ps_ret (pv 4))))))), fun B0 H0 => ?_⟩
  have hd := dep_pos n
  obtain ⟨wd, ds, he, hn⟩ : ∃ (wd : Str) (ds : List PyData), n.enc = .tuple (.str wd :: ds) ∧ ((ds.length + 1 = 3) → decide (wd ∈ [("both" : Str), "either", "but"]) = false) := by
    cases n with
    | both _ _ => cases hp
    | either _ _ => cases hp
    | but _ _ => cases hp
    | any => exact ⟨_, _, rfl, fun h => by simp at h⟩
    | made s => exact ⟨_, _, rfl, fun h => by simp at h⟩
    | used s => exact ⟨_, _, rfl, fun h => by simp at h⟩
    | chief s => exact ⟨_, _, rfl, fun h => by simp at h⟩
    | over x y => exact ⟨_, _, rfl, fun _ => by decide +kernel⟩
  have ew : ∀ (Γ : Cxt) (te : TE), EvS te Γ (.d n.enc κ) → EvS (tOp (rIxT K) te (tC (.int 0))) Γ (dS wd) := fun Γ te h => ev_sc (ev_ixT (ds := .str wd :: ds) (he ▸ h) ev_int (atI_nat (l := .str wd :: ds) (k := 0) rfl))
  have el : ∀ (Γ : Cxt) (te : TE), EvS te Γ (.d n.enc κ) → EvS (tCB (rLen K) (tCons te tNil)) Γ (dI ((ds.length + 1 : Nat) : Int)) := fun Γ te h => ev_lenT (ds := .str wd :: ds) (he ▸ h)
  have it : isTupD n.enc = true := by rw [he]; rfl
  refine ws_seq (ws_if (b := false) (et_orF ((et_test (ev_gt (ev_var rfl) ev_int)).is (decide_eq_false (by omega))) (et_orF (et_notT (et_valT ((ev_isTupD (ev_var rfl)).is (by rw [it])))) (et_orF ((et_test (ev_eqI (el _ _ (ev_var rfl)) ev_int)).is (decide_eq_false (by omega))) (et_notT (et_valT (ev_isStrD (ew _ _ (ev_var rfl)))))))) (fun h => by cases h) fun _ => ws_next ?_)
  refine ws_seq (ws_if (b := decide (((ds.length + 1 : Nat) : Int) = 3) && decide (wd ∈ [("both" : Str), "either", "but"])) (et_and (et_test (ev_eqI (el _ _ (ev_var rfl)) ev_int)) fun _ => et_test (ev_inSS (l := ["both", "either", "but"]) (ew _ _ (ev_var rfl)) (ev_tup (κ := .pl) (ds := [.str "both", .str "either", .str "but"]) (ea_cons ev_str (ea_cons ev_str (ea_cons ev_str ea_nil))) (by decide)))) (fun h => ?_) fun _ => ws_next ?_)
  · rw [Bool.and_eq_true] at h
    have h3 := of_decide_eq_true h.1
    rw [hn (by omega)] at h
    cases h.2
  refine ws_seq (ws_asg (ev_call (ea_cons (ev_var rfl) ea_nil) ⟨κ, n, rfl, hp, ho, rfl⟩) ?_)
  refine ws_seq (ws_if (et_test (ev_isNab (ev_var rfl) (nref n))) (fun h => by cases h) fun _ => ws_next ?_)
  exact ws_ret (ev_var rfl) rfl
theorem ok_madeatBoth (T : Txt K mg) (x y : Nt) {i j k : Nat} (hi : i ≤ k) (hj : j ≤ k) (h3 : 3 ≤ k) (Fx : FnOk P w K mg base CX0 i 586 (fdOf K 586) ["told", "deep"] (spD (Pma x) noX)) (Fy : FnOk P w K mg base CX0 j 586 (fdOf K 586) ["told", "deep"] (spD (Pma y) noX)) :
    FnOk P w K mg base CX0 (k + 1) 586 (fdOf K 586) ["told", "deep"] (spD (Pma (.both x y)) noX) := by
  refine Fun.okD (f_madeat T) sc_madeat (fun ss s ⟨_, _, h, _⟩ => by rw [h]; rfl) fun cdv A outer h H E hr ss s ⟨κ, deep, hs, h1, h2, ho, hv⟩ => ?_
  subst hs hv
  replace hr : Room k _ := hr
  refine ⟨_, (pss_cons (ps_if (PW.pt (pw_or (pt_cmpR op_gt (pv 1) (pe_gI rfl (i_DEEP T)) (nomark _)) (pw_or (pt_not (pt_val (pe_callB call_isi rfl (z_isinstance T) (by decide +kernel) (pa_cons (pv 0) (pa_cons (pe_ty (n := "tuple") rfl (z_tuple T) (by decide +kernel)) pa_nil))))) (pw_or (pt_cmpR op_eq (pe_callB call_len rfl (z_len T) PySem.boot_len (pa_cons (pv 0) pa_nil)) pe_int (nomark _)) (pw_or1 (pt_not (pt_val (pe_callB call_isi rfl (z_isinstance T) (by decide +kernel) (pa_cons (pe_ix ix_tup (pv 0) pe_int (fun _ _ => rfl)) (pa_cons (pe_ty (n := "str") rfl (z_str T) (by decide +kernel)) pa_nil)))))))))) (pss_one ps_never) pss_nil)
      (pss_cons (ps_if (PW.pt (pw_and (pt_cmpR op_eq (pe_callB call_len rfl (z_len T) PySem.boot_len (pa_cons (pv 0) pa_nil)) pe_int (nomark _)) (pw_and1 (pt_cmpR op_in_seq (pe_ix ix_tup (pv 0) pe_int (fun _ _ => rfl)) (pe_tup (pa_cons pe_str (pa_cons pe_str (pa_cons pe_str pa_nil)))) rfl)))) (pss_cons (ps_set (i := 2) sc_madeat.nd rfl (Or.inl rfl) (pe_call Fx (hr.mono (by omega)) rfl (g_madeat T) (f_madeat T).kp (b_madeat T) .nil pass0 (pa_cons (pe_ix ix_tup (pv 0) pe_int (fun _ _ => rfl)) (pa_cons (pe_op op_add (pv 1) pe_int) pa_nil))))
      (pss_cons (ps_set (i := 3) sc_madeat.nd rfl (Or.inl rfl) (pe_call Fy (hr.mono (by omega)) rfl (g_madeat T) (f_madeat T).kp (b_madeat T) .nil pass0 (pa_cons (pe_ix ix_tup (pv 0) pe_int (fun _ _ => rfl)) (pa_cons (pe_op op_add (pv 1) pe_int) pa_nil))))
      (pss_cons (ps_if (pt_cmpR op_eq (pe_ix ix_tup (pv 0) pe_int (fun _ _ => rfl)) pe_str (nomark _)) (pss_one (ps_ret (pe_make (k_Both T) (ok_Bothinit T) (hr.mono (by omega)) rfl (g_Both T) (b_Bothinit T) .nil pass0 (pa_cons (pv 2) (pa_cons (pv 3) pa_nil))))) pss_nil)
      (pss_cons (ps_if (pt_cmpR op_eq (pe_ix ix_tup (pv 0) pe_int (fun _ _ => rfl)) pe_str (nomark _)) (pss_one (ps_ret (pe_make (k_Either T) (ok_Eitherinit T) (hr.mono (by omega)) rfl (g_Either T) (b_Eitherinit T) .nil pass0 (pa_cons (pv 2) (pa_cons (pv 3) pa_nil))))) pss_nil)
      (pss_one (ps_ret (pe_make (k_But T) (ok_Butinit T) (hr.mono (by omega)) rfl (g_But T) (b_Butinit T) .nil pass0 (pa_cons (pv 2) (pa_cons (pv 3) pa_nil))))))))) pss_nil)
      (pss_cons (ps_set (i := 4) sc_madeat.nd rfl (Or.inl rfl) (pe_call (ok_plainof T) (hr.mono (by omega)) rfl (g_plainof T) (f_plainof T).kp (b_plainof T) .nil pass0 (pa_cons (pv 0) pa_nil)))
      (pss_cons (ps_if (pt_cmpR op_isN (pv 4) pe_non (nomark _)) (pss_one ps_never) pss_nil)
      (pss_one (ps_ret (pv 4))))))), fun B0 H0 => ?_⟩
  have hxy : x.ok = true ∧ y.ok = true := by simpa [Nt.ok] using ho
  have hdx := dep_pos x
  have hdy := dep_pos y
  have hdm : deep + (max x.dep y.dep + 1 : Nat) ≤ 6 := h2
  have ew : ∀ (Γ : Cxt) (te : TE), EvS te Γ (.d (.tuple [.str "both", x.enc, y.enc]) κ) → EvS (tOp (rIxT K) te (tC (.int 0))) Γ (dS "both") := fun Γ te h => ev_sc (ev_ixT (ds := [.str "both", x.enc, y.enc]) h ev_int rfl)
  have el : ∀ (Γ : Cxt) (te : TE), EvS te Γ (.d (.tuple [.str "both", x.enc, y.enc]) κ) → EvS (tCB (rLen K) (tCons te tNil)) Γ (dI 3) := fun Γ te h => ev_lenT (ds := [.str "both", x.enc, y.enc]) h
  refine ws_seq (ws_if (b := false) (et_orF ((et_test (ev_gt (ev_var rfl) ev_int)).is (decide_eq_false (by omega))) (et_orF (et_notT (et_valT (ev_isTupD (x := .tuple [.str "both", x.enc, y.enc]) (ev_var rfl)))) (et_orF ((et_test (ev_eqI (el _ _ (ev_var rfl)) ev_int)).is rfl) (et_notT (et_valT (ev_isStrD (ew _ _ (ev_var rfl)))))))) (fun h => by cases h) fun _ => ws_next ?_)
  refine ws_seq (ws_if (b := true) (et_andT (et_eqiT (el _ _ (ev_var rfl)) rfl) ((et_test (ev_inSS (l := ["both", "either", "but"]) (ew _ _ (ev_var rfl)) (ev_tup (κ := .pl) (ds := [.str "both", .str "either", .str "but"]) (ea_cons ev_str (ea_cons ev_str (ea_cons ev_str ea_nil))) (by decide)))).is (by decide +kernel))) (fun _ => ?_) fun h => by cases h)
  refine ws_seq (ws_asg (s := .ab (NtP x)) (ev_call (ea_cons (ev_ixT (ds := [.str "both", x.enc, y.enc]) (d := x.enc) (ev_var rfl) ev_int rfl) (ea_cons (ev_add (ev_var rfl) ev_int) ea_nil)) ⟨κ, deep + 1, rfl, by omega, by omega, hxy.1, rfl⟩) ?_)
  refine ws_seq (ws_asg (s := .ab (NtP y)) (ev_call (ea_cons (ev_ixT (ds := [.str "both", x.enc, y.enc]) (d := y.enc) (ev_var rfl) ev_int rfl) (ea_cons (ev_add (ev_var rfl) ev_int) ea_nil)) ⟨κ, deep + 1, rfl, by omega, by omega, hxy.2, rfl⟩) ?_)
  exact ws_seq (ws_if (et_eqT (ew _ _ (ev_var rfl)) rfl) (fun _ => ws_ret (s := .ab (NtP (.both x y))) (ev_make2 (ea_cons (ev_var rfl) (ea_cons (ev_var rfl) ea_nil)) fun B a dx v1 v2 h h1 h2 => ⟨a, dx, v1, v2, rfl, h, h1, h2⟩) rfl) fun h => by cases h)
theorem ok_madeatEither (T : Txt K mg) (x y : Nt) {i j k : Nat} (hi : i ≤ k) (hj : j ≤ k) (h3 : 3 ≤ k) (Fx : FnOk P w K mg base CX0 i 586 (fdOf K 586) ["told", "deep"] (spD (Pma x) noX)) (Fy : FnOk P w K mg base CX0 j 586 (fdOf K 586) ["told", "deep"] (spD (Pma y) noX)) :
    FnOk P w K mg base CX0 (k + 1) 586 (fdOf K 586) ["told", "deep"] (spD (Pma (.either x y)) noX) := by
  refine Fun.okD (f_madeat T) sc_madeat (fun ss s ⟨_, _, h, _⟩ => by rw [h]; rfl) fun cdv A outer h H E hr ss s ⟨κ, deep, hs, h1, h2, ho, hv⟩ => ?_
  subst hs hv
  replace hr : Room k _ := hr
  refine ⟨_, (pss_cons (ps_if (PW.pt (pw_or (pt_cmpR op_gt (pv 1) (pe_gI rfl (i_DEEP T)) (nomark _)) (pw_or (pt_not (pt_val (pe_callB call_isi rfl (z_isinstance T) (by decide +kernel) (pa_cons (pv 0) (pa_cons (pe_ty (n := "tuple") rfl (z_tuple T) (by decide +kernel)) pa_nil))))) (pw_or (pt_cmpR op_eq (pe_callB call_len rfl (z_len T) PySem.boot_len (pa_cons (pv 0) pa_nil)) pe_int (nomark _)) (pw_or1 (pt_not (pt_val (pe_callB call_isi rfl (z_isinstance T) (by decide +kernel) (pa_cons (pe_ix ix_tup (pv 0) pe_int (fun _ _ => rfl)) (pa_cons (pe_ty (n := "str") rfl (z_str T) (by decide +kernel)) pa_nil)))))))))) (pss_one ps_never) pss_nil)
      (pss_cons (ps_if (PW.pt (pw_and (pt_cmpR op_eq (pe_callB call_len rfl (z_len T) PySem.boot_len (pa_cons (pv 0) pa_nil)) pe_int (nomark _)) (pw_and1 (pt_cmpR op_in_seq (pe_ix ix_tup (pv 0) pe_int (fun _ _ => rfl)) (pe_tup (pa_cons pe_str (pa_cons pe_str (pa_cons pe_str pa_nil)))) rfl)))) (pss_cons (ps_set (i := 2) sc_madeat.nd rfl (Or.inl rfl) (pe_call Fx (hr.mono (by omega)) rfl (g_madeat T) (f_madeat T).kp (b_madeat T) .nil pass0 (pa_cons (pe_ix ix_tup (pv 0) pe_int (fun _ _ => rfl)) (pa_cons (pe_op op_add (pv 1) pe_int) pa_nil))))
      (pss_cons (ps_set (i := 3) sc_madeat.nd rfl (Or.inl rfl) (pe_call Fy (hr.mono (by omega)) rfl (g_madeat T) (f_madeat T).kp (b_madeat T) .nil pass0 (pa_cons (pe_ix ix_tup (pv 0) pe_int (fun _ _ => rfl)) (pa_cons (pe_op op_add (pv 1) pe_int) pa_nil))))
      (pss_cons (ps_if (pt_cmpR op_eq (pe_ix ix_tup (pv 0) pe_int (fun _ _ => rfl)) pe_str (nomark _)) (pss_one (ps_ret (pe_make (k_Both T) (ok_Bothinit T) (hr.mono (by omega)) rfl (g_Both T) (b_Bothinit T) .nil pass0 (pa_cons (pv 2) (pa_cons (pv 3) pa_nil))))) pss_nil)
      (pss_cons (ps_if (pt_cmpR op_eq (pe_ix ix_tup (pv 0) pe_int (fun _ _ => rfl)) pe_str (nomark _)) (pss_one (ps_ret (pe_make (k_Either T) (ok_Eitherinit T) (hr.mono (by omega)) rfl (g_Either T) (b_Eitherinit T) .nil pass0 (pa_cons (pv 2) (pa_cons (pv 3) pa_nil))))) pss_nil)
      (pss_one (ps_ret (pe_make (k_But T) (ok_Butinit T) (hr.mono (by omega)) rfl (g_But T) (b_Butinit T) .nil pass0 (pa_cons (pv 2) (pa_cons (pv 3) pa_nil))))))))) pss_nil)
      (pss_cons (ps_set (i := 4) sc_madeat.nd rfl (Or.inl rfl) (pe_call (ok_plainof T) (hr.mono (by omega)) rfl (g_plainof T) (f_plainof T).kp (b_plainof T) .nil pass0 (pa_cons (pv 0) pa_nil)))
      (pss_cons (ps_if (pt_cmpR op_isN (pv 4) pe_non (nomark _)) (pss_one ps_never) pss_nil)
      (pss_one (ps_ret (pv 4))))))), fun B0 H0 => ?_⟩
  have hxy : x.ok = true ∧ y.ok = true := by simpa [Nt.ok] using ho
  have hdx := dep_pos x
  have hdy := dep_pos y
  have hdm : deep + (max x.dep y.dep + 1 : Nat) ≤ 6 := h2
  have ew : ∀ (Γ : Cxt) (te : TE), EvS te Γ (.d (.tuple [.str "either", x.enc, y.enc]) κ) → EvS (tOp (rIxT K) te (tC (.int 0))) Γ (dS "either") := fun Γ te h => ev_sc (ev_ixT (ds := [.str "either", x.enc, y.enc]) h ev_int rfl)
  have el : ∀ (Γ : Cxt) (te : TE), EvS te Γ (.d (.tuple [.str "either", x.enc, y.enc]) κ) → EvS (tCB (rLen K) (tCons te tNil)) Γ (dI 3) := fun Γ te h => ev_lenT (ds := [.str "either", x.enc, y.enc]) h
  refine ws_seq (ws_if (b := false) (et_orF ((et_test (ev_gt (ev_var rfl) ev_int)).is (decide_eq_false (by omega))) (et_orF (et_notT (et_valT (ev_isTupD (x := .tuple [.str "either", x.enc, y.enc]) (ev_var rfl)))) (et_orF ((et_test (ev_eqI (el _ _ (ev_var rfl)) ev_int)).is rfl) (et_notT (et_valT (ev_isStrD (ew _ _ (ev_var rfl)))))))) (fun h => by cases h) fun _ => ws_next ?_)
  refine ws_seq (ws_if (b := true) (et_andT (et_eqiT (el _ _ (ev_var rfl)) rfl) ((et_test (ev_inSS (l := ["both", "either", "but"]) (ew _ _ (ev_var rfl)) (ev_tup (κ := .pl) (ds := [.str "both", .str "either", .str "but"]) (ea_cons ev_str (ea_cons ev_str (ea_cons ev_str ea_nil))) (by decide)))).is (by decide +kernel))) (fun _ => ?_) fun h => by cases h)
  refine ws_seq (ws_asg (s := .ab (NtP x)) (ev_call (ea_cons (ev_ixT (ds := [.str "either", x.enc, y.enc]) (d := x.enc) (ev_var rfl) ev_int rfl) (ea_cons (ev_add (ev_var rfl) ev_int) ea_nil)) ⟨κ, deep + 1, rfl, by omega, by omega, hxy.1, rfl⟩) ?_)
  refine ws_seq (ws_asg (s := .ab (NtP y)) (ev_call (ea_cons (ev_ixT (ds := [.str "either", x.enc, y.enc]) (d := y.enc) (ev_var rfl) ev_int rfl) (ea_cons (ev_add (ev_var rfl) ev_int) ea_nil)) ⟨κ, deep + 1, rfl, by omega, by omega, hxy.2, rfl⟩) ?_)
  refine ws_seq (ws_if (et_eqF (ew _ _ (ev_var rfl)) (by decide +kernel)) (fun h => by cases h) fun _ => ws_next ?_)
  exact ws_seq (ws_if (et_eqT (ew _ _ (ev_var rfl)) rfl) (fun _ => ws_ret (s := .ab (NtP (.either x y))) (ev_make2 (ea_cons (ev_var rfl) (ea_cons (ev_var rfl) ea_nil)) fun B a dx v1 v2 h h1 h2 => ⟨a, dx, v1, v2, rfl, h, h1, h2⟩) rfl) fun h => by cases h)
theorem ok_madeatBut (T : Txt K mg) (x y : Nt) {i j k : Nat} (hi : i ≤ k) (hj : j ≤ k) (h3 : 3 ≤ k) (Fx : FnOk P w K mg base CX0 i 586 (fdOf K 586) ["told", "deep"] (spD (Pma x) noX)) (Fy : FnOk P w K mg base CX0 j 586 (fdOf K 586) ["told", "deep"] (spD (Pma y) noX)) :
    FnOk P w K mg base CX0 (k + 1) 586 (fdOf K 586) ["told", "deep"] (spD (Pma (.but x y)) noX) := by
  refine Fun.okD (f_madeat T) sc_madeat (fun ss s ⟨_, _, h, _⟩ => by rw [h]; rfl) fun cdv A outer h H E hr ss s ⟨κ, deep, hs, h1, h2, ho, hv⟩ => ?_
  subst hs hv
  replace hr : Room k _ := hr
  refine ⟨_, (pss_cons (ps_if (PW.pt (pw_or (pt_cmpR op_gt (pv 1) (pe_gI rfl (i_DEEP T)) (nomark _)) (pw_or (pt_not (pt_val (pe_callB call_isi rfl (z_isinstance T) (by decide +kernel) (pa_cons (pv 0) (pa_cons (pe_ty (n := "tuple") rfl (z_tuple T) (by decide +kernel)) pa_nil))))) (pw_or (pt_cmpR op_eq (pe_callB call_len rfl (z_len T) PySem.boot_len (pa_cons (pv 0) pa_nil)) pe_int (nomark _)) (pw_or1 (pt_not (pt_val (pe_callB call_isi rfl (z_isinstance T) (by decide +kernel) (pa_cons (pe_ix ix_tup (pv 0) pe_int (fun _ _ => rfl)) (pa_cons (pe_ty (n := "str") rfl (z_str T) (by decide +kernel)) pa_nil)))))))))) (pss_one ps_never) pss_nil)
      (pss_cons (ps_if (PW.pt (pw_and (pt_cmpR op_eq (pe_callB call_len rfl (z_len T) PySem.boot_len (pa_cons (pv 0) pa_nil)) pe_int (nomark _)) (pw_and1 (pt_cmpR op_in_seq (pe_ix ix_tup (pv 0) pe_int (fun _ _ => rfl)) (pe_tup (pa_cons pe_str (pa_cons pe_str (pa_cons pe_str pa_nil)))) rfl)))) (pss_cons (ps_set (i := 2) sc_madeat.nd rfl (Or.inl rfl) (pe_call Fx (hr.mono (by omega)) rfl (g_madeat T) (f_madeat T).kp (b_madeat T) .nil pass0 (pa_cons (pe_ix ix_tup (pv 0) pe_int (fun _ _ => rfl)) (pa_cons (pe_op op_add (pv 1) pe_int) pa_nil))))
      (pss_cons (ps_set (i := 3) sc_madeat.nd rfl (Or.inl rfl) (pe_call Fy (hr.mono (by omega)) rfl (g_madeat T) (f_madeat T).kp (b_madeat T) .nil pass0 (pa_cons (pe_ix ix_tup (pv 0) pe_int (fun _ _ => rfl)) (pa_cons (pe_op op_add (pv 1) pe_int) pa_nil))))
      (pss_cons (ps_if (pt_cmpR op_eq (pe_ix ix_tup (pv 0) pe_int (fun _ _ => rfl)) pe_str (nomark _)) (pss_one (ps_ret (pe_make (k_Both T) (ok_Bothinit T) (hr.mono (by omega)) rfl (g_Both T) (b_Bothinit T) .nil pass0 (pa_cons (pv 2) (pa_cons (pv 3) pa_nil))))) pss_nil)
      (pss_cons (ps_if (pt_cmpR op_eq (pe_ix ix_tup (pv 0) pe_int (fun _ _ => rfl)) pe_str (nomark _)) (pss_one (ps_ret (pe_make (k_Either T) (ok_Eitherinit T) (hr.mono (by omega)) rfl (g_Either T) (b_Eitherinit T) .nil pass0 (pa_cons (pv 2) (pa_cons (pv 3) pa_nil))))) pss_nil)
      (pss_one (ps_ret (pe_make (k_But T) (ok_Butinit T) (hr.mono (by omega)) rfl (g_But T) (b_Butinit T) .nil pass0 (pa_cons (pv 2) (pa_cons (pv 3) pa_nil))))))))) pss_nil)
      (pss_cons (ps_set (i := 4) sc_madeat.nd rfl (Or.inl rfl) (pe_call (ok_plainof T) (hr.mono (by omega)) rfl (g_plainof T) (f_plainof T).kp (b_plainof T) .nil pass0 (pa_cons (pv 0) pa_nil)))
      (pss_cons (ps_if (pt_cmpR op_isN (pv 4) pe_non (nomark _)) (pss_one ps_never) pss_nil)
      (pss_one (ps_ret (pv 4))))))), fun B0 H0 => ?_⟩
  have hxy : x.ok = true ∧ y.ok = true := by simpa [Nt.ok] using ho
  have hdx := dep_pos x
  have hdy := dep_pos y
  have hdm : deep + (max x.dep y.dep + 1 : Nat) ≤ 6 := h2
  have ew : ∀ (Γ : Cxt) (te : TE), EvS te Γ (.d (.tuple [.str "but", x.enc, y.enc]) κ) → EvS (tOp (rIxT K) te (tC (.int 0))) Γ (dS "but") := fun Γ te h => ev_sc (ev_ixT (ds := [.str "but", x.enc, y.enc]) h ev_int rfl)
  have el : ∀ (Γ : Cxt) (te : TE), EvS te Γ (.d (.tuple [.str "but", x.enc, y.enc]) κ) → EvS (tCB (rLen K) (tCons te tNil)) Γ (dI 3) := fun Γ te h => ev_lenT (ds := [.str "but", x.enc, y.enc]) h
  refine ws_seq (ws_if (b := false) (et_orF ((et_test (ev_gt (ev_var rfl) ev_int)).is (decide_eq_false (by omega))) (et_orF (et_notT (et_valT (ev_isTupD (x := .tuple [.str "but", x.enc, y.enc]) (ev_var rfl)))) (et_orF ((et_test (ev_eqI (el _ _ (ev_var rfl)) ev_int)).is rfl) (et_notT (et_valT (ev_isStrD (ew _ _ (ev_var rfl)))))))) (fun h => by cases h) fun _ => ws_next ?_)
  refine ws_seq (ws_if (b := true) (et_andT (et_eqiT (el _ _ (ev_var rfl)) rfl) ((et_test (ev_inSS (l := ["both", "either", "but"]) (ew _ _ (ev_var rfl)) (ev_tup (κ := .pl) (ds := [.str "both", .str "either", .str "but"]) (ea_cons ev_str (ea_cons ev_str (ea_cons ev_str ea_nil))) (by decide)))).is (by decide +kernel))) (fun _ => ?_) fun h => by cases h)
  refine ws_seq (ws_asg (s := .ab (NtP x)) (ev_call (ea_cons (ev_ixT (ds := [.str "but", x.enc, y.enc]) (d := x.enc) (ev_var rfl) ev_int rfl) (ea_cons (ev_add (ev_var rfl) ev_int) ea_nil)) ⟨κ, deep + 1, rfl, by omega, by omega, hxy.1, rfl⟩) ?_)
  refine ws_seq (ws_asg (s := .ab (NtP y)) (ev_call (ea_cons (ev_ixT (ds := [.str "but", x.enc, y.enc]) (d := y.enc) (ev_var rfl) ev_int rfl) (ea_cons (ev_add (ev_var rfl) ev_int) ea_nil)) ⟨κ, deep + 1, rfl, by omega, by omega, hxy.2, rfl⟩) ?_)
  refine ws_seq (ws_if (et_eqF (ew _ _ (ev_var rfl)) (by decide +kernel)) (fun h => by cases h) fun _ => ws_next ?_)
  refine ws_seq (ws_if (et_eqF (ew _ _ (ev_var rfl)) (by decide +kernel)) (fun h => by cases h) fun _ => ws_next ?_)
  exact ws_ret (s := .ab (NtP (.but x y))) (ev_make2 (ea_cons (ev_var rfl) (ea_cons (ev_var rfl) ea_nil)) fun B a dx v1 v2 h h1 h2 => ⟨a, dx, v1, v2, rfl, h, h1, h2⟩) rfl
theorem ok_madeat (T : Txt K mg) : ∀ n : Nt, FnOk P w K mg base CX0 (n.dep + 3) 586 (fdOf K 586) ["told", "deep"] (spD (Pma n) noX)
  | .any => ok_madeatP T _ rfl
  | .made s => ok_madeatP T _ rfl
  | .used s => ok_madeatP T _ rfl
  | .chief s => ok_madeatP T _ rfl
  | .over x y => ok_madeatP T _ rfl
  | .both x y => ok_madeatBoth T x y (k := max x.dep y.dep + 3) (by omega) (by omega) (by omega) (ok_madeat T x) (ok_madeat T y)
  | .either x y => ok_madeatEither T x y (k := max x.dep y.dep + 3) (by omega) (by omega) (by omega) (ok_madeat T x) (ok_madeat T y)
  | .but x y => ok_madeatBut T x y (k := max x.dep y.dep + 3) (by omega) (by omega) (by omega) (ok_madeat T x) (ok_madeat T y)
theorem ok_noteof (T : Txt K mg) (n : Nt) : FnOk P w K mg base CX0 9 593 (fdOf K 593) ["told"] (spD (fun ss s => ∃ (κ : TK), ss = [.d n.enc κ] ∧ n.dep ≤ 5 ∧ n.ok = true ∧ s = .ab (NtP n)) noX) := by
  by_cases hd : n.dep ≤ 5
  · refine Fun.okD (f_noteof T) sc_noteof (fun ss s ⟨_, h, _⟩ => by rw [h]; rfl) fun cdv A outer h H E hr ss s ⟨κ, hs, _, ho, hv⟩ => ?_
    subst hs hv
    exact ⟨_, (pss_one (ps_ret (pe_call (ok_madeat T n) (hr.mono (by omega)) rfl (g_madeat T) (f_madeat T).kp (b_madeat T) .nil pass0 (pa_cons (pv 0) (pa_cons pe_int pa_nil))))), fun B0 H0 => ws_ret (ev_call (ea_cons (ev_var rfl) (ea_cons ev_int ea_nil)) ⟨κ, 1, rfl, by omega, by omega, ho, rfl⟩) rfl⟩
  · exact Fun.okD (f_noteof T) sc_noteof (fun ss s ⟨_, h, _⟩ => by rw [h]; rfl) fun cdv A outer h H E hr ss s ⟨κ, hs, hd', _⟩ => absurd hd' hd
end TG
set_option Elab.async false
set_option linter.all false
set_option maxRecDepth 100000
set_option maxHeartbeats 4000000
/-! FD: dicts whose keys are tuples of ints: display, put, look up, walked once they are sealed. -/
namespace TG
open PySem PySem.Spec PyProof.Rows L2
/-! ### {k: v} -/
def tDispT1 (tk tv : TE) : TE := fun σ H Q => ∀ p, H p = none → tk σ (upd H p (.dT [])) fun x H1 => tv σ H1 fun y H2 => ∃ (b : Addr) (k : List Key), x = .ref b ∧ H2 b = some (.tup (k.map kV)) ∧ H2 p = some (.dT []) ∧ Q (.ref p) (upd H2 p (.dT [(k, y)]))
theorem pe_dispT1 {X : Cx} {pos : Pos} {k v : Expr} {tk tv : TE} (hu : X.A.units < cLine) (hk : PE X k tk) (hv : PE X v tv) : PE X (.Dict [some k] [v] pos) (tDispT1 tk tv) := by
  refine ⟨fun pins s σ H Q I q => ?_⟩
  have hn := I.hok.fresh (Nat.le_refl s.heap.objs.size)
  have I1 := I.laid (a := s.heap.objs.size) (o := .dT []) (h' := s.heap.push { cls := .type "dict", data := .dict #[] }) (t' := s.toks) (fun _ _ q => Heap.get?_push_of_some _ q) (Nat.le_refl _) (dt_empty s.heap I.big)
  have hp : PPs X pos [some k] [v] [(tk, tv)] := pps_cons hk hv pps_nil
  rw [arm_eval_Dict, zip_pairTrees [some k] [v] X.env pos rfl rfl, dictDisplay_pairs (pairTrees [some k] [v] X.env pos) (by intro z; have := pairTrees_length [some k] [v] X.env pos rfl rfl; rw [z] at this; cases this) (by rw [pairTrees_length [some k] [v] X.env pos rfl rfl]; exact (by decide : (1 : Nat) < 17))]
  refine wpAny_bind (wpAny_standAt (wpAny_bind (wpAny_subDictH (knd := tupleKind (mixKind X.prog X.w)) (Q := fun d s' => wpAny (model X.prog X.w) X.A (pure (Value.ref d)) (EP X pins σ Q) X.xe s') (show (tupleKind (mixKind X.prog X.w)).room X.A from hu) (by rw [pairTrees_length [some k] [v] X.env pos rfl rfl]; exact (by decide : (1 : Nat) ≤ 15))
    (wpAny_mono (hp.run pins _ σ _ (fun ps H2 => match ps with | [(x, y)] => ∃ (b : Addr) (k : List Key), x = .ref b ∧ H2 b = some (.tup (k.map kV)) ∧ H2 s.heap.objs.size = some (.dT []) ∧ Q (.ref s.heap.objs.size) (upd H2 s.heap.objs.size (.dT [(k, y)])) | _ => False) I1 ?_) (fun vs s₁ h₁ => ?_) fun _ _ e => e))))
  · exact q _ hn
  · obtain ⟨ps, H2, I2, rel, hm⟩ := h₁
    match ps, hm with
    | [(x, y)], hm =>
    obtain ⟨b, kk, rfl, eb, ep, q2⟩ := hm
    cases rel with
    | @cons p1 p2 l1 l2 r1 r2 =>
      cases r2
      obtain ⟨u1, u2⟩ := p2
      obtain ⟨ru1, ru2⟩ := r1
      cases ru1
      obtain ⟨z, hd, xs, rel, dd⟩ := dt_of I2.hok ep
      cases rel
      refine ⟨[(kk, b, u2)], ⟨rfl, rfl, key_of I2.hok eb, trivial⟩, dd, fun h' tk' dd' hs => wpAny_pure ⟨.ref s.heap.objs.size, _, ?_, rfl, q2⟩⟩
      obtain ⟨q, es, ep', hq, h2, h3, h4, _, h5⟩ := dd'
      refine d_write (t' := tk') (ob := .dT [(kk, y)]) I2 (by rw [ep]; exact True.intro) hs ⟨q, hq⟩ ⟨(show (1 : Nat) ≤ sizeLine by decide), hd, [(kk, b, u2)], .cons ⟨rfl, ?_, ru2⟩ .nil, q, es, ep', hq, h2, h3, h4, by simp⟩
      rw [upd_ne (ne_of eb ep (fun z => nomatch z))]
      exact eb
/-! ### own dicts in slots -/
def DicF (kvs : List Ent) : Pv := fun B v => ∃ a o vs, v = .ref a ∧ B a = some (.frz o (.dT vs)) ∧ DicV B vs kvs
def DicR (kvs : List Ent) (B : Hp) (v : V) : Prop := ∃ a vs, v = .ref a ∧ Rd B a (.dT vs) ∧ DicV B vs kvs
theorem DicP.rd {kvs : List Ent} {B : Hp} {v : V} (h : DicP kvs B v) : DicR kvs B v := let ⟨a, vs, e, h1, h2⟩ := h; ⟨a, vs, e, .inl h1, h2⟩
theorem DicF.rd {kvs : List Ent} {B : Hp} {v : V} (h : DicF kvs B v) : DicR kvs B v := let ⟨a, o, vs, e, h1, h2⟩ := h; ⟨a, vs, e, .inr ⟨o, h1⟩, h2⟩
/-- what stands in a slot, as an entry of a dict -/
def slP (s : Sl) : Pv := fun B v => SlR B B v s
theorem slP_ab {s : Sl} (hn : s.isOwn = false) {B : Hp} {w : V} (h : Ab (slP s) B w) : SlR B B w s := let ⟨B0, e, p⟩ := h; SlR.grow p hn e
def hasK (k : List Int) (kvs : List Ent) : Bool := (kvs.find? fun e => decide (e.1 = k)).isSome
theorem DicV.has {B : Hp} {k : List Int} {vs : List (List Key × V)} {kvs : List Ent} (h : DicV B vs kvs) : (valV vs (k.map Sum.inl)).isSome = hasK k kvs := by
  have := h.find (k := k)
  unfold hasK
  cases q : kvs.find? (fun e => decide (e.1 = k)) with
  | none => rw [q] at this; rw [this]; rfl
  | some e => rw [q] at this; obtain ⟨w, hw, _⟩ := this; rw [hw]; rfl
theorem any_new {k : List Key} : ∀ {vs : List (List Key × V)}, valV vs k = none → (vs.any fun kv => decide (kv.1 = k)) = false
  | [], _ => rfl
  | (k', v') :: vs, h => by
    by_cases e : k' = k
    · rw [valV_pos e] at h; cases h
    · rw [valV_neg e] at h
      rw [List.any_cons, any_new h, Bool.or_false]
      exact decide_eq_false e
theorem put_new {k : List Key} {v : V} {vs : List (List Key × V)} (h : valV vs k = none) : putK vs k v = vs ++ [(k, v)] := by
  unfold putK
  rw [any_new h]
  rfl
theorem DicV.snoc {B : Hp} {n : List Int} {v : V} {φ : Pv} (a : Ab φ B v) : ∀ {vs : List (List Key × V)} {kvs : List Ent}, DicV B vs kvs → DicV B (vs ++ [(n.map Sum.inl, v)]) (kvs ++ [(n, φ)])
  | _, _, .nil => .cons ⟨rfl, a⟩ .nil
  | _, _, .cons h r => .cons h (DicV.snoc a r)
theorem DicV.len {B : Hp} : ∀ {vs : List (List Key × V)} {kvs : List Ent}, DicV B vs kvs → vs.length = kvs.length
  | _, _, .nil => rfl
  | _, _, .cons _ r => congrArg (· + 1) (DicV.len r)
theorem DicV.get {B : Hp} : ∀ {vs : List (List Key × V)} {kvs : List Ent} {i : Nat} {p : List Key × V}, DicV B vs kvs → vs[i]? = some p → ∃ e, kvs[i]? = some e ∧ p.1 = e.1.map Sum.inl ∧ Ab e.2 B p.2
  | _, _, _, _, .nil, h => by simp at h
  | _, _, 0, _, .cons h r, e => by simp at e; subst e; exact ⟨_, rfl, h⟩
  | _, _, i + 1, _, .cons h r, e => by
    obtain ⟨x, h1, h2⟩ := DicV.get (i := i) r (by simpa using e)
    exact ⟨x, by simpa using h1, h2⟩
section
variable {K : PySem.W.Frag} {Γ : Cxt} {ta tb tc te tl ty td tv : TE} {t u : TT} {s : Sl} {x y z : PyData} {B0 H0 : Hp} {ts tu : TS} {E : DE} {κ κ' : TK}
theorem ev_dgetR {kvs : List Ent} {k : List Int} {φ : Pv} {e : Ent} (h : EvS ta Γ (.ab φ)) (hφ : ∀ B v, φ B v → DicR kvs B v) (hk : EvS tb Γ (.d (encN k))) (hv : kvs.find? (fun e => decide (e.1 = k)) = some e) (hs : ∀ B w, Ab e.2 B w → SlR B B w s) (hn : s.isOwn = false := by rfl) : EvS (tDGet ta tb) Γ s := fun B H σ Q g q =>
  h B H σ _ g fun v B1 H1 st1 r1 _ => hk B1 H1 σ _ (g.step st1) fun w B2 H2 st2 r2 _ => by
    obtain ⟨B0, e0, p⟩ := r1
    obtain ⟨a, vs, rfl, h1, h2⟩ := hφ _ _ p
    obtain ⟨b, rfl, h3⟩ := encN_inv r2
    have := DicV.find (k := k) h2
    rw [hv] at this
    obtain ⟨w, hw, ab⟩ := this
    have hw' : DGet H2 a (.ref b) (valV vs (k.map Sum.inl)) := .inr ⟨vs, _, b, rd_mono st2.hh (rd_mono st1.bh (rd_mono e0 h1)), rfl, st2.bh _ _ h3, rfl⟩
    rw [hw] at hw'
    exact ⟨a, w, rfl, hw', q _ B2 H2 (st1.trans st2) ((hs _ _ ab).grow hn (e0.trans st2.bb)) (.no hn)⟩
theorem ev_dnew : EvS tDNewT Γ (.owd []) := fun B H σ Q g q p hp => q _ B _ (Step.newH g.ex hp) ⟨p, [], rfl, g.ex.free hp, upd_same, .nil⟩ fun _ => ⟨p, rfl, hp⟩
theorem owd_get {B H : Hp} {σ : L2.St} {i : Nat} {kvs : List Ent} (g : GR B H σ Γ) (h : Γ[i]? = some (some (.owd kvs))) : ∃ a vs, σ[i]? = some (some (.ref a)) ∧ B a = none ∧ H a = some (.dT vs) ∧ DicV B vs kvs := by
  obtain ⟨v, h1, a, vs, rfl, h2, h3, h4⟩ := g.at_ i _ h
  exact ⟨a, vs, h1, h2, h3, h4⟩
/-- n in d, of an own dict -/
theorem ev_din {i : Nat} {kvs : List Ent} {n : List Int} (h : Γ[i]? = some (some (.owd kvs))) (hk : EvS ty Γ (.d (encN n))) : EvS (tDIn ty (tVar i)) Γ (dB (hasK n kvs)) := fun B H σ Q g q =>
  hk B H σ _ g fun w B1 H1 st r _ => by
    obtain ⟨a, vs, h1, h2, h3, h4⟩ := owd_get (g.step st) h
    obtain ⟨b, rfl, h5⟩ := encN_inv r
    exact ⟨.ref a, h1, a, _, rfl, DGet.t h3 (st.bh _ _ h5), by rw [h4.has]; exact q _ B1 H1 st (RpK.bl _) (.no rfl)⟩
theorem ev_dnotinR {kvs : List Ent} {n : List Int} {φ : Pv} (h : EvS td Γ (.ab φ)) (hφ : ∀ B v, φ B v → DicR kvs B v) (hk : EvS ty Γ (.d (encN n))) : EvS (tDNotIn ty td) Γ (dB (!hasK n kvs)) := fun B H σ Q g q =>
  hk B H σ _ g fun w B1 H1 st r _ => h B1 H1 σ _ (g.step st) fun v B2 H2 st2 r2 _ => by
    obtain ⟨B0, e0, p⟩ := r2
    obtain ⟨a, vs, rfl, h1, h2⟩ := hφ _ _ p
    obtain ⟨b, rfl, h5⟩ := encN_inv r
    exact ⟨a, _, rfl, .inr ⟨vs, n.map Sum.inl, b, rd_mono st2.bh (rd_mono e0 h1), rfl, st2.bh _ _ (st2.bb _ _ h5), rfl⟩, by rw [h2.has]; exact q _ B2 H2 (st.trans st2) (RpK.bl _) (.no rfl)⟩
/-- d[n] = v, a new key -/
theorem ws_dput {i : Nat} {kvs : List Ent} {n : List Int} (h : Γ[i]? = some (some (.owd kvs))) (hv : EvS tv Γ s) (hk : EvS ty Γ (.d (encN n))) (hn : hasK n kvs = false) (hl : kvs.length < 100000) (ho : s.isOwn = false) (k : E.nx (Γ.set i (some (.owd (kvs ++ [(n, slP s)]))))) : WS B0 H0 (sDPut (tVar i) ty tv) Γ E := fun B H σ D g k1 _ _ _ =>
  hv B H σ _ g.g fun v B1 H1 st r _ => by
    have g1 := g.step st
    obtain ⟨a, vs, h1, h2, h3, h4⟩ := owd_get g1.g h
    refine ⟨.ref a, h1, hk B1 H1 σ _ g1.g fun w B2 H2 st2 r2 _ => ?_⟩
    obtain ⟨b, rfl, h5⟩ := encN_inv r2
    have h3' := st2.hh _ _ h3
    have hB : B2 a = none := st2.fr a _ h2 h3 trivial
    have h4' := DicV.mono st2.bb h4
    refine ⟨a, _, rfl, DPut.t h3' (st2.bh _ _ h5) (Nat.lt_of_lt_of_le (by rw [h4.len]; exact hl) (by decide : 100000 ≤ sizeLine)), ?_⟩
    have hnv : valV vs (n.map Sum.inl) = none := by
      have := h4.has (k := n)
      rw [hn] at this
      cases q : valV vs (n.map Sum.inl) with
      | none => rfl
      | some x => rw [q] at this; cases this
    rw [put_new hnv]
    exact k1 _ B2 _ σ k ((g1.step st2).write h rfl h1 hB rfl ⟨a, _, rfl, hB, upd_same, h4'.snoc (Ab.of ((r.step st2).grow ho .rfl))⟩) (st.bb.trans st2.bb)
/-- an own object comes into the view, as it stands or known -/
theorem SR.fix {B H : Hp} {σ : L2.St} {i : Nat} {a : Addr} {o : HO} {s' : Sl} (g : SR B0 H0 B H σ Γ) (h : Γ[i]? = some (some s)) (ho : s.isOwn = true) (hv : σ[i]? = some (some (.ref a))) (hB : B a = none) (hn : s'.isOwn = false) (hr : SlR (upd B a o) (upd H a o) (.ref a) s') : SR B0 H0 (upd B a o) (upd H a o) σ (Γ.set i (some s')) := by
  have h0 : H0 a = none := g.fr i s a h ho hv
  have gb : Gr B (upd B a o) := Gr.new hB
  have bh : Gr (upd B a o) (upd H a o) := fun b u q => by
    by_cases hb : b = a
    · subst hb; rw [upd_same] at q ⊢; exact q
    · rw [upd_ne hb] at q ⊢; exact g.g.ex b u q
  refine ⟨⟨g.st.bb.trans gb, fun b u q => by rw [upd_ne (ne_of_none q h0)]; exact g.st.hh b u q, bh, fun b u e1 e2 n => by rw [upd_ne (ne_of_none e2 h0)]; exact g.st.fr b u e1 e2 n⟩, ⟨bh, by rw [List.length_set]; exact g.g.len, fun j t e => ?_, fun j k t u jk e1 e2 o1 o2 => ?_⟩, fun j t b e o e2 => ?_⟩
  · rcases set_get e with ⟨rfl, q, _⟩ | ⟨ne, q⟩
    · cases q
      exact ⟨_, hv, hr⟩
    · obtain ⟨w, q1, q2⟩ := g.g.at_ j t q
      refine ⟨w, q1, ?_⟩
      cases ht : t.isOwn with
      | false => exact q2.grow ht gb
      | true =>
        have nv : w ≠ .ref a := fun z => g.g.ow j i t _ ne q h ht ho (by rw [q1, hv, z])
        cases t with
        | d x k => cases ht
        | ab φ => cases ht
        | own xs k =>
          obtain ⟨b, vs, rfl, p1, p2, p3⟩ := q2
          exact ⟨b, vs, rfl, by rw [upd_ne (fun z => nv (by rw [z]))]; exact p1, by rw [upd_ne (fun z => nv (by rw [z]))]; exact p2, RpKA.mono gb p3⟩
        | owd xs =>
          obtain ⟨b, vs, rfl, p1, p2, p3⟩ := q2
          exact ⟨b, vs, rfl, by rw [upd_ne (fun z => nv (by rw [z]))]; exact p1, by rw [upd_ne (fun z => nv (by rw [z]))]; exact p2, DicV.mono gb p3⟩
  · rcases set_get e1 with ⟨rfl, q1, _⟩ | ⟨n1, q1⟩
    · cases q1; rw [hn] at o1; cases o1
    · rcases set_get e2 with ⟨rfl, q2, _⟩ | ⟨n2, q2⟩
      · cases q2; rw [hn] at o2; cases o2
      · exact g.g.ow j k t u jk q1 q2 o1 o2
  · rcases set_get e with ⟨rfl, q, _⟩ | ⟨ne, q⟩
    · cases q; rw [hn] at o; cases o
    · exact g.fr j t b q o e2
theorem upd_id {H : Hp} {a : Addr} {o : HO} (h : H a = some o) : upd H a o = H := by
  funext b
  by_cases hb : b = a
  · subst hb; rw [upd_same]; exact h.symm
  · rw [upd_ne hb]
/-- an own dict is read from now on -/
theorem ws_dfreeze {i : Nat} {kvs : List Ent} (h : Γ[i]? = some (some (.owd kvs))) (k : WS B0 H0 ts (Γ.set i (some (.ab (DicP kvs)))) E) : WS B0 H0 ts Γ E := fun B H σ D g k1 k2 k3 k4 => by
  obtain ⟨a, vs, h1, h2, h3, h4⟩ := owd_get g.g h
  have gb : Gr B (upd B a (.dT vs)) := Gr.new h2
  have sr := g.fix (o := .dT vs) (s' := .ab (DicP kvs)) h rfl h1 h2 rfl (Ab.of ⟨a, vs, rfl, upd_same, DicV.mono gb h4⟩)
  rw [upd_id h3] at sr
  exact k _ H σ D sr (fun Γ' B' H' σ' q g' e => k1 Γ' B' H' σ' q g' (gb.trans e)) k2 (fun Γ' B' H' σ' q g' e => k3 Γ' B' H' σ' q g' (gb.trans e)) (fun Γ' B' H' σ' q g' e => k4 Γ' B' H' σ' q g' (gb.trans e))
/-- behind a statement a thing is locked for good -/
def tSeal (t : TS) : TS := fun D σ H => t { D with nx := fun σ' H' => ∃ d u, H' d = some u ∧ Mut (some u) ∧ ∀ od, D.nx σ' (upd H' d (.frz od u)) } σ H
theorem ps_seal {X : Cx} {st : Stmt} {t : TS} (h : PS X st t) : PS X st (tSeal t) := by
  refine ⟨fun pins s σ H D I hw => ?_⟩
  refine thn (h.run pins s σ _ _ I hw) fun f s1 q => ?_
  cases f with
  | next =>
    obtain ⟨σ', H', I2, d, u, hd, mu, q⟩ := q
    obtain ⟨od, I3⟩ := I2.lock hd mu
    exact ⟨σ', _, I3, q od⟩
  | brk => exact q
  | cont => exact q
  | ret v => exact q
theorem ws_seal {i : Nat} {kvs : List Ent} (h : WS B0 H0 ts Γ { E with nx := fun Γ' => Γ'[i]? = some (some (.owd kvs)) ∧ E.nx (Γ'.set i (some (.ab (DicF kvs)))) }) : WS B0 H0 (tSeal ts) Γ E := fun B H σ D g k1 k2 k3 k4 =>
  h B H σ { D with nx := fun σ' H' => ∃ d u, H' d = some u ∧ Mut (some u) ∧ ∀ od, D.nx σ' (upd H' d (.frz od u)) } g (fun Γ' B' H' σ' ⟨e1, e2⟩ g' e => by
    obtain ⟨a, vs, h1, h2, h3, h4⟩ := owd_get g'.g e1
    refine ⟨a, _, h3, trivial, fun od => ?_⟩
    have gb : Gr B' (upd B' a (.frz od (.dT vs))) := Gr.new h2
    exact k1 _ _ _ σ' e2 (g'.fix (s' := .ab (DicF kvs)) e1 rfl h1 h2 rfl (Ab.of ⟨a, od, vs, rfl, upd_same, DicV.mono gb h4⟩)) (e.trans gb)) k2 k3 k4
/-! ### walks over the keys of a sealed dict -/
theorem for_keysT {d : Addr} {o : Obj} {kvs : List (List Key × V)} {g : L2.TG} {tb : TS} {D : Ends} {σ : L2.St} {H : Hp} (Pv : Nat → L2.St → Hp → Prop) (h0 : Pv 0 σ H) (hl : ∀ i σ H, i ≤ kvs.length → Pv i σ H → H d = some (.frz o (.dT kvs)))
    (hs : ∀ i p q σ H, kvs[i]? = some p → H q = some (.tup (p.1.map kV)) → Pv i σ H → g (.ref q) σ H fun σ2 H2 => tb { D with nx := Pv (i + 1), ct := Pv (i + 1), bk := D.nx } σ2 H2) (hd : ∀ σ H, Pv kvs.length σ H → D.nx σ H) :
    ∃ W : Nat → Nat → L2.St → Hp → Prop, (∃ m, W 0 m σ H) ∧ ∀ i m σ H, W i m σ H →
      ((Itkt d o kvs).stop i H ∧ D.nx σ H) ∨ ((Itkt d o kvs).go i H ∧ ∃ N : L2.St → Hp → Prop, (∀ σ' H', N σ' H' → ∃ m', m' < m ∧ W (i + 1) m' σ' H') ∧ ∀ x H', (Itkt d o kvs).yld i H x H' → g x σ H' fun σ2 H2 => tb { D with nx := N, ct := N, bk := D.nx } σ2 H2) := by
  refine ⟨fun i m σ H => m = kvs.length - i ∧ i ≤ kvs.length ∧ Pv i σ H, ⟨kvs.length, by simp, Nat.zero_le _, h0⟩, ?_⟩
  rintro i m σ H ⟨rfl, hi, p⟩
  have q := hl i σ H hi p
  by_cases hlt : i < kvs.length
  · refine .inr ⟨⟨q, hlt⟩, Pv (i + 1), fun σ' H' p' => ⟨kvs.length - (i + 1), by omega, rfl, hlt, p'⟩, fun x H' y => ?_⟩
    obtain ⟨e, k, v, qa, e1, e2, e3⟩ := y
    subst e e2
    exact hs i (k, v) qa σ _ e1 e3 p
  · have e : i = kvs.length := by omega
    subst e
    exact .inl ⟨⟨q, Nat.le_refl _⟩, hd σ H p⟩
/-- a tuple of ints that stands comes into the view -/
theorem tup_in {B H : Hp} {q : Addr} {n : List Int} (e : Gr B H) (h : H q = some (.tup ((n.map Sum.inl : List Key).map kV))) : ∃ B', Step B H B' H ∧ Rp B' (.ref q) (encN n) := by
  refine ⟨_, Step.tup e h, RpK.tup (by intro z; cases z) upd_same ?_⟩
  rw [← ints_kV]
  exact RpKA.of_ints n
theorem ws_forD {kvs : List Ent} {φ : Pv} {j : Nat} (h : EvS td Γ (.ab φ)) (hφ : ∀ B v, φ B v → DicF kvs B v) (I : Nat → Cxt → Prop) (h0 : I 0 Γ)
    (hs : ∀ i e Γ', kvs[i]? = some e → I i Γ' → WS B0 H0 ts (Γ'.set j (some (.d (encN e.1)))) { E with nx := I (i + 1), ct := I (i + 1), bk := E.nx }) (hd : ∀ Γ', I kvs.length Γ' → E.nx Γ') : WS B0 H0 (tFor (iKeys td) (gName j) ts) Γ E := fun B H σ D gr k1 k2 k3 k4 =>
  h B H σ _ gr.g fun v B1 H1 st r _ => by
    obtain ⟨Bp, ep, p⟩ := r
    obtain ⟨a, o, vs, rfl, h1, h2⟩ := hφ _ _ p
    have h1' := ep _ _ h1
    have h2' := DicV.mono ep h2
    have hlen := h2.len
    refine ⟨a, o, rfl, .inr ⟨vs, st.bh _ _ h1', for_keysT (fun i σ' H' => ∃ Γ' B', I i Γ' ∧ SR B0 H0 B' H' σ' Γ' ∧ Gr B1 B') ⟨Γ, B1, h0, gr.step st, .rfl⟩ (fun i σ' H' _ ⟨Γ', B', _, g', e'⟩ => g'.g.ex _ _ (e' _ _ h1')) ?_ ?_⟩⟩
    · rintro i p q σ' H' hi hq ⟨Γ', B', hI, g', e'⟩
      obtain ⟨e, he, hk, _⟩ := h2'.get hi
      rw [hk] at hq
      obtain ⟨B2, st2, rq⟩ := tup_in g'.g.ex hq
      show ts _ (σ'.set j (some (.ref q))) H'
      refine hs i e Γ' he hI B2 H' _ _ ((g'.step st2).set0 (s := .d (encN e.1)) rq rfl) (fun Γ'' B'' H'' σ'' q g'' e'' => ⟨Γ'', B'', q, g'', e'.trans (st2.bb.trans e'')⟩) k2 (fun Γ'' B'' H'' σ'' q g'' e'' => k1 Γ'' B'' H'' σ'' q g'' (st.bb.trans (e'.trans (st2.bb.trans e'')))) fun Γ'' B'' H'' σ'' q g'' e'' => ⟨Γ'', B'', q, g'', e'.trans (st2.bb.trans e'')⟩
    · rintro σ' H' ⟨Γ', B', hI, g', e'⟩
      rw [hlen] at hI
      exact k1 Γ' B' H' σ' (hd Γ' hI) g' (st.bb.trans e')
theorem lc_keysT {d : Addr} {o : Obj} {kvs : List (List Key × V)} {g : L2.TG} {tt : TT} {te : TE} {vs : List Nat} {σ : L2.St} {H1 : Hp} {D : Addr} {Qd : Hp → Prop} (Pv : Nat → Hp → Prop) (h0 : Pv 0 (upd H1 D (.lst []))) (hl : ∀ i H, i ≤ kvs.length → Pv i H → H d = some (.frz o (.dT kvs)))
    (hs : ∀ i p q H, kvs[i]? = some p → H q = some (.tup (p.1.map kV)) → Pv i H → g (.ref q) (wipe σ vs) H fun σ2 H2 => wipe σ2 vs = wipe σ vs ∧ tt σ2 H2 fun b H3 =>
      if b = true then te σ2 H3 fun y H4 => ∃ acc, H4 D = some (.lst acc) ∧ acc.length < sizeLine ∧ Pv (i + 1) (upd H4 D (.lst (acc ++ [y]))) else Pv (i + 1) H3) (hd : ∀ H, Pv kvs.length H → Qd H) :
    ∃ W : Nat → Nat → Hp → Prop, (∃ m, W 0 m (upd H1 D (.lst []))) ∧ ∀ i m H, W i m H →
      ((Itkt d o kvs).stop i H ∧ Qd H) ∨ ((Itkt d o kvs).go i H ∧ ∃ Nx : Hp → Prop, (∀ H', Nx H' → ∃ m', m' < m ∧ W (i + 1) m' H') ∧ ∀ x H', (Itkt d o kvs).yld i H x H' → g x (wipe σ vs) H' fun σ2 H2 => wipe σ2 vs = wipe σ vs ∧ tt σ2 H2 fun b H3 =>
        if b = true then te σ2 H3 fun y H4 => ∃ acc, H4 D = some (.lst acc) ∧ acc.length < sizeLine ∧ Nx (upd H4 D (.lst (acc ++ [y]))) else Nx H3) := by
  refine ⟨fun i m H => m = kvs.length - i ∧ i ≤ kvs.length ∧ Pv i H, ⟨kvs.length, by simp, Nat.zero_le _, h0⟩, ?_⟩
  rintro i m H ⟨rfl, hi, p⟩
  have q := hl i H hi p
  by_cases hlt : i < kvs.length
  · refine .inr ⟨⟨q, hlt⟩, Pv (i + 1), fun H' p' => ⟨kvs.length - (i + 1), by omega, rfl, hlt, p'⟩, fun x H' y => ?_⟩
    obtain ⟨e, k, v, qa, e1, e2, e3⟩ := y
    subst e e2
    exact hs i (k, v) qa _ e1 e3 p
  · have e : i = kvs.length := by omega
    subst e
    exact .inl ⟨⟨q, Nat.le_refl _⟩, hd H p⟩
theorem comp_turn' {B1 H1 : Hp} {f : PyData → Bool} {g : PyData → PyData} {ds : List PyData} {D : Addr} {i : Nat} {H : Hp} {σ : L2.St} {j : Nat} {vs : List Nat} {v : V} {d : PyData} {B : Hp} {acc : List V} (gr : GR B1 H1 σ Γ) (hi : ds[i]? = some d) (hl : ds.length ≤ 100000)
    (ht : EvT t ((wipeG Γ vs).set j (some (.d d κ))) (f d)) (he : f d = true → EvS te ((wipeG Γ vs).set j (some (.d d κ))) (.d (g d) κ')) (st : Step B1 H1 B H) (n0 : H1 D = none) (hn : B D = none) (hD : H D = some (.lst acc)) (ra : RpKA κ' B acc (((ds.take i).filter f).map g)) (rv : RpK κ B v d) :
    t ((wipe σ vs).set j (some v)) H fun b H3 => if b = true then te ((wipe σ vs).set j (some v)) H3 fun y H4 => ∃ acc, H4 D = some (.lst acc) ∧ acc.length < sizeLine ∧ CompI κ' B1 H1 f g ds D (i + 1) (upd H4 D (.lst (acc ++ [y]))) else CompI κ' B1 H1 f g ds D (i + 1) H3 := by
  have g2 : GR B H ((wipe σ vs).set j (some v)) ((wipeG Γ vs).set j (some (.d d κ))) := ((gr.step st).wipe vs).set0 (s := .d d κ) rv rfl
  refine ht B H _ _ g2 fun B2 H2 st2 => ?_
  have hD2 := st2.hh _ _ hD
  have hn2 : B2 D = none := st2.fr D _ hn hD trivial
  cases hf : f d with
  | true =>
    refine he hf B2 H2 _ _ (g2.step st2) fun y B3 H3 st3 r3 _ => ?_
    have hD3 := st3.hh _ _ hD2
    have hn3 : B3 D = none := st3.fr D _ hn2 hD2 trivial
    have hacc : acc.length < sizeLine := by
      have q1 := ra.len
      rw [List.length_map] at q1
      have q2 := List.length_filter_le f (ds.take i)
      have q3 : (ds.take i).length ≤ i := List.length_take_le _ _
      have q4 := (List.getElem?_eq_some_iff.mp hi).1
      exact Nat.lt_of_lt_of_le (show acc.length < 100001 by omega) (by decide)
    have stt := (st.trans st2).trans st3
    refine ⟨acc, hD3, hacc, B3, acc ++ [y], ⟨stt.bb, fun b o q => ?_, fun b o q => ?_, stt.fr⟩, n0, hn3, upd_same, ?_⟩
    · rw [upd_ne (ne_of_none q n0)]; exact stt.hh b o q
    · rw [upd_ne (ne_of_none q hn3)]; exact stt.bh b o q
    · rw [filter_take hi, if_pos hf, List.map_append]
      exact (RpKA.mono (st2.bb.trans st3.bb) ra).append (.one r3)
  | false =>
    refine ⟨B2, acc, st.trans st2, n0, hn2, hD2, ?_⟩
    rw [filter_take hi, hf]
    simp only [Bool.false_eq_true, if_false, List.append_nil]
    exact RpKA.mono st2.bb ra
def keysL (kvs : List Ent) : List PyData := kvs.map fun e => encN e.1
theorem ev_lcD {kvs : List Ent} {φ : Pv} {j : Nat} {vs : List Nat} (f : PyData → Bool) (g : PyData → PyData) (h : EvS td Γ (.ab φ)) (hφ : ∀ B v, φ B v → DicF kvs B v) (hj : j ∈ vs) (hl : kvs.length ≤ 100000) (ht : ∀ e ∈ kvs, EvT t ((wipeG Γ vs).set j (some (.d (encN e.1)))) (f (encN e.1))) (he : ∀ e ∈ kvs, f (encN e.1) = true → EvS te ((wipeG Γ vs).set j (some (.d (encN e.1)))) (.d (g (encN e.1)))) :
    EvS (tLc (iKeys td) (gName j) t te vs) Γ (.own (((keysL kvs).filter f).map g)) := fun B H σ Q gr q => h B H σ _ gr fun v B1 H1 st r _ => by
  obtain ⟨Bp, ep, p⟩ := r
  obtain ⟨a, o, ws, rfl, h1, h2⟩ := hφ _ _ p
  have h1' := ep _ _ h1
  have h2' := DicV.mono ep h2
  have hlen : ws.length = (keysL kvs).length := by rw [h2.len]; simp [keysL]
  refine ⟨a, o, rfl, .inr ⟨ws, st.bh _ _ h1', fun D hD => ?_⟩⟩
  refine lc_keysT (CompI .pl B1 H1 f g (keysL kvs) D) (comp_start st.bh hD) (fun i H' _ p => ?_) (fun i p qa H' hi hq pc => ?_) fun H' p => comp_end (H := H') (B := B1) st (by rw [← hlen]; exact p) q
  · obtain ⟨B', _, st', _⟩ := p
    exact st'.hh _ _ (st.bh _ _ h1')
  · obtain ⟨e, hE, hk, _⟩ := h2'.get hi
    rw [hk] at hq
    obtain ⟨B', acc, st', n0, hn, hD', ra⟩ := pc
    obtain ⟨B2, st2, rq⟩ := tup_in st'.bh hq
    have hmem := List.mem_of_getElem? hE
    have hi2 : (keysL kvs)[i]? = some (encN e.1) := by
      unfold keysL
      rw [List.getElem?_map, hE]; rfl
    refine ⟨wipe_set hj, ?_⟩
    exact comp_turn' (κ := .pl) (gr.step st) hi2 (by rw [← hlen, h2.len]; exact hl) (ht e hmem) (he e hmem) (st'.trans st2) n0 (st2.fr D _ hn hD' trivial) hD' (RpKA.mono st2.bb ra) rq
end
end TG
set_option Elab.async false
set_option linter.all false
set_option maxRecDepth 100000
set_option maxHeartbeats 4000000
/-! W8: kinds and rows read. -/
namespace TG
open PySem PySem.Spec PyProof.Rows L2
variable {P : Program} {w : World} {K : KF} {mg : Str → Option Value} {base : Heap}
theorem hu_of' {k : Nat} {A : Around} (hr : Room k A) : A.units + 1 < cLine := by have := hr.un; omega
theorem nodup_ix {α : Type} {l : List α} (h : l.Nodup) {i j : Nat} (hi : i < l.length) (hj : j < l.length) (e : l[i] = l[j]) : i = j := by
  rcases Nat.lt_trichotomy i j with q | q | q
  · exact absurd e (List.pairwise_iff_getElem.mp h i j hi hj q)
  · exact q
  · exact absurd e.symm (List.pairwise_iff_getElem.mp h j i hj hi q)
theorem any_take {ks : List Knd} {i : Nat} {k : Knd} (h : ks[i]? = some k) (hn : ks.Nodup) : decide (k ∈ ks.take i) = false := by
  refine decide_eq_false fun hm => ?_
  obtain ⟨j, hj, e⟩ := List.getElem_of_mem hm
  rw [List.length_take] at hj
  obtain ⟨hi, e2⟩ := List.getElem?_eq_some_iff.mp h
  rw [List.getElem_take] at e
  have := nodup_ix hn _ _ (e.trans e2.symm)
  omega
theorem ok_kindsof (T : Txt K mg) : FnOk P w K mg base CX0 3 162 (fdOf K 162) ["some"] (spD (fun ss s => ∃ ks : List Knd, ss = [dL (ksL ks)] ∧ 1 ≤ ks.length ∧ ks.length ≤ 4 ∧ (∀ k ∈ ks, kndB k = true) ∧ ks.Nodup ∧ s = .own (ksL ks)) noX) := by
  refine Fun.okD (f_kindsof T) sc_kindsof (fun ss s ⟨_, h, _⟩ => by rw [h]; rfl) fun cdv A outer h H E hr ss s ⟨ks, hs, h1, h4, hk, hn, hv⟩ => ?_
  have hu65 := hu65_of hr
  subst hs hv
  refine ⟨_, (pss_cons (ps_if (PW.pt (pw_or (pt_not (pt_val (pe_callB call_isi rfl (z_isinstance T) (by decide +kernel) (pa_cons (pv 0) (pa_cons (pe_ty (n := "list") rfl (z_list T) (by decide +kernel)) pa_nil))))) (pw_or1 (pt_not (pt_chain op_le op_le pe_int (pe_callB call_len rfl (z_len T) PySem.boot_len (pa_cons (pv 0) pa_nil)) (pe_gI rfl (i_KINDS T))))))) (pss_one ps_never) pss_nil)
      (pss_cons (ps_set (i := 1) sc_kindsof.nd rfl (Or.inl rfl) (pe_lst pa_nil))
      (pss_cons (ps_for PassesOwn.never rfl (pi_list (pv 0)) (pg_name (i := 2) sc_kindsof.nd rfl (Or.inl rfl))
      (pss_cons (ps_if (PW.pt (pw_or (pt_not (pt_val (pe_call (ok_iskind T) (hr.mono (by decide)) rfl (g_iskind T) (f_iskind T).kp (b_iskind T) .nil pass0 (pa_cons (pv 2) pa_nil)))) (pw_or1 (pt_cmpR (op_inD hu65) (pv 2) (pv 1) rfl)))) (pss_one ps_never) pss_nil)
      (pss_one (ps_expr (pe_bm PySem.F.plainAttrs_list PySem.F.slot_list_append PySem.F.type_list_append mt_append (pv 1) (pa_cons (pv 2) pa_nil))))))
      (pss_one (ps_ret (pv 1)))))), fun B0 H0 => ?_⟩
  have hlk : (ksL ks).length = ks.length := ksL_len
  refine ws_seq (ws_if (b := false) (et_orF (et_notT (et_valT (ev_isLstD (x := .list (ksL ks)) (ev_var rfl)))) (et_notT ((et_test (ev_chainLe ev_int (ev_lenL (ds := ksL ks) (ev_var rfl)) ev_int)).is ?_))) (fun h => by cases h) fun _ => ws_next ?_)
  · rw [hlk]; simp; omega
  refine ws_seq (ws_asg (ev_lst (ds := []) (κ := .pl) ea_nil (Nat.zero_le _)) ?_)
  refine ws_seq (ws_forL (κ := .pl) (ds := ksL ks) (f := fun x Γ => Γ.set 2 (some (.d x .pl))) (ev_var rfl) (fun x _ => tg_name) (fun i Γ' => ∃ o, Γ' = [some (dL (ksL ks)), some (.own (ksL (ks.take i))), o]) ⟨none, rfl⟩ ?_ ?_)
  · rintro i x Γ' hx ⟨o, rfl⟩
    obtain ⟨k, hki, rfl⟩ : ∃ k, ks[i]? = some k ∧ kD k = x := by
      unfold ksL at hx
      rw [List.getElem?_map] at hx
      cases q : ks[i]? with
      | none => rw [q] at hx; cases hx
      | some y => rw [q] at hx; exact ⟨y, rfl, Option.some.inj hx⟩
    have hm := List.mem_of_getElem? hki
    have hkn := hk k hm
    have hkn' := hkn
    unfold kndB at hkn'
    simp only [Bool.and_eq_true] at hkn'
    refine ws_seq (ws_if (b := false) (et_orF (et_notT (et_valT (ev_call (ea_cons (ev_var rfl) ea_nil) ⟨.pl, k, rfl, name_len hkn'.1, name_len hkn'.2, by rw [hkn]⟩))) (et_thaw (i := 1) (κ := .pl) rfl ((et_test (ev_inD (κ := .pl) (κ' := .pl) (x := kD k) (ds := ksL (ks.take i)) (ev_var rfl) (ev_var rfl) ((gd_k (ok_knd hkn)).shaped (by decide)) ((gd_ks fun q hq => ok_knd (hk q (List.mem_of_mem_take hq))).shaped (by decide)))).is ?_))) (fun h => by cases h) fun _ => ws_next ?_)
    · rw [any_ks]; exact any_take hki hn
    · refine ws_app (κ := .pl) rfl (ev_var rfl) (by rw [ksL_len]; have := List.length_take_le i ks; have := (List.getElem?_eq_some_iff.mp hki).1; omega) ⟨some (.d (kD k)), ?_⟩
      rw [List.take_add_one, hki]
      simp [ksL]
  · rintro Γ' ⟨o, rfl⟩
    rw [hlk, List.take_length]
    exact ws_retOwn rfl rfl
def rwL (rows : List Rw) : List PyData := rows.map Rw.enc
def rowsE (rows : List Rw) : List Ent := rows.map fun r => (r.num, slP (.d r.enc))
structure RowsOk (rows : List Rw) : Prop where
  pos : 1 ≤ rows.length
  le : rows.length ≤ 24
  ne : ∀ r ∈ rows, r.num ≠ []
  len : ∀ r ∈ rows, r.num.length ≤ 4
  val : ∀ r ∈ rows, ∀ x ∈ r.num, 1 ≤ x ∧ x ≤ 99
  nod : (rows.map Rw.num).Nodup
  clo : ∀ r ∈ rows, 1 < r.num.length → r.num.dropLast ∈ rows.map Rw.num
  ok : ∀ r ∈ rows, r.note.ok = true
  dep : ∀ r ∈ rows, r.note.dep ≤ 5
theorem hasK_iff {n : List Int} {kvs : List Ent} : hasK n kvs = decide (n ∈ kvs.map fun e => e.1) := by
  unfold hasK
  induction kvs with
  | nil => simp
  | cons e l ih =>
    by_cases h : e.1 = n
    · rw [List.find?_cons_of_pos (by simpa using h)]
      simp [h]
    · rw [List.find?_cons_of_neg (by simpa using h), ih]
      have h' : ¬ n = e.1 := fun z => h z.symm
      simp [h']
theorem rowsE_keys (rows : List Rw) : (rowsE rows).map (fun e => e.1) = rows.map Rw.num := by
  unfold rowsE
  rw [List.map_map]; rfl
theorem take_not {rows : List Rw} {i : Nat} {r : Rw} (h : rows[i]? = some r) (hn : (rows.map Rw.num).Nodup) : r.num ∉ (rows.take i).map Rw.num := fun hm => by
  rw [List.map_take] at hm
  obtain ⟨j, hj, e⟩ := List.getElem_of_mem hm
  rw [List.length_take] at hj
  obtain ⟨hi, e2⟩ := List.getElem?_eq_some_iff.mp h
  rw [List.getElem_take] at e
  have hi' : i < (rows.map Rw.num).length := by rw [List.length_map]; exact hi
  have e3 : (rows.map Rw.num)[i] = r.num := by rw [List.getElem_map, e2]
  have := nodup_ix hn _ _ (e.trans e3.symm)
  omega
theorem rows_get {rows : List Rw} {i : Nat} {x : PyData} (h : (rwL rows)[i]? = some x) : ∃ r, rows[i]? = some r ∧ r.enc = x := by
  unfold rwL at h
  rw [List.getElem?_map] at h
  cases q : rows[i]? with
  | none => rw [q] at h; cases h
  | some y => rw [q] at h; exact ⟨y, rfl, Option.some.inj h⟩
theorem cut_drop (l : List PyData) : cutD l none (some (-1)) = l.dropLast := by
  unfold cutD
  have h1 : HT.sIx l.length 0 none = 0 := rfl
  have h2 : HT.sIx l.length l.length (some (-1)) = l.length - 1 := by
    simp [HT.sIx]
    omega
  rw [h1, h2, List.dropLast_eq_take]
  simp
theorem ev_dropLast {Γ : Cxt} {te : TE} {n : List Int} (h : EvS te Γ (.d (encN n))) : EvS (tSl (rSlA K) te tNoPart (tPart (fun σ H Q => (tC (.int 1)) σ H fun x H1 => ∃ i, x = .int i ∧ Q (.int (-i)) H1))) Γ (.d (encN n.dropLast)) := by
  refine (ev_slT (K := K) (ds := iL n) h eo_none (eo_some (i := -1) ?_)).is ?_
  · exact fun B H σ Q g q => ⟨1, rfl, q _ B H (.rfl g.ex) (RpK.int _) (.no rfl)⟩
  · rw [cut_drop]
    show Sl.d (.tuple (List.dropLast (n.map PyData.int))) = _
    rw [← List.map_dropLast]; rfl
theorem row_num {Γ : Cxt} {te : TE} {r : Rw} {κ : TK} (h : EvS te Γ (.d r.enc κ)) : EvS (tOp (rIxT K) te (tC (.int 0))) Γ (.d (encN r.num) κ) := ev_ixT (ds := [encN r.num, r.note.enc, .str (ruleS r.one)]) h ev_int rfl
theorem row_note {Γ : Cxt} {te : TE} {r : Rw} {κ : TK} (h : EvS te Γ (.d r.enc κ)) : EvS (tOp (rIxT K) te (tC (.int 1))) Γ (.d r.note.enc κ) := ev_ixT (ds := [encN r.num, r.note.enc, .str (ruleS r.one)]) h ev_int rfl
theorem row_one {Γ : Cxt} {te : TE} {r : Rw} {κ : TK} (h : EvS te Γ (.d r.enc κ)) : EvS (tOp (rIxT K) te (tC (.int 2))) Γ (dS (ruleS r.one)) := ev_sc (ev_ixT (ds := [encN r.num, r.note.enc, .str (ruleS r.one)]) h ev_int rfl)
theorem rule_in (b : Bool) : decide (ruleS b ∈ [("one" : Str), "near"]) = true := by cases b <;> decide +kernel
theorem ok_isrow (T : Txt K mg) : FnOk P w K mg base CX0 4 600 (fdOf K 600) ["row"] (spD (fun ss s => ∃ r : Rw, ss = [.d r.enc] ∧ r.num ≠ [] ∧ r.num.length ≤ 4 ∧ (∀ x ∈ r.num, 1 ≤ x ∧ x ≤ 99) ∧ s = dB true) noX) := by
  refine Fun.okD (f_isrow T) sc_isrow (fun ss s ⟨_, h, _⟩ => by rw [h]; rfl) fun cdv A outer h H E hr ss s ⟨r, hs, h1, h2, h3, hv⟩ => ?_
  subst hs hv
  refine ⟨_, (pss_one (ps_ret (pe_and (pe_callB call_isi rfl (z_isinstance T) (by decide +kernel) (pa_cons (pv 0) (pa_cons (pe_ty (n := "tuple") rfl (z_tuple T) (by decide +kernel)) pa_nil))) (pe_and (pe_cmpR op_eq (pe_callB call_len rfl (z_len T) PySem.boot_len (pa_cons (pv 0) pa_nil)) pe_int (nomark _)) (pe_and (pe_call (ok_isnumber T) (hr.mono (by decide)) rfl (g_isnumber T) (f_isnumber T).kp (b_isnumber T) .nil pass0 (pa_cons (pe_ix ix_tup (pv 0) pe_int (fun _ _ => rfl)) pa_nil)) (pe_one (pe_cmpR op_in_seq (pe_ix ix_tup (pv 0) pe_int (fun _ _ => rfl)) (pe_tup (pa_cons (pe_gS rfl (x_ONE T)) (pa_cons (pe_gS rfl (x_NEAR T)) pa_nil))) rfl))))))), fun B0 H0 => ws_ret ?_ rfl⟩
  refine (ev_andV (ev_isTupD (x := r.enc) (ev_var rfl)) fun _ => ev_andV (ev_eqI (ev_lenT (ds := [encN r.num, r.note.enc, .str (ruleS r.one)]) (ev_var rfl)) ev_int) fun _ => ev_andV (ev_call (ea_cons (row_num (ev_var rfl)) ea_nil) ⟨r.num, rfl, h1, h2, h3, rfl⟩) fun _ =>
    ev_inSS (l := ["one", "near"]) (row_one (ev_var rfl)) (ev_tup (κ := .pl) (ds := [.str "one", .str "near"]) (ea_cons ev_str (ea_cons ev_str ea_nil)) (by decide))).is ?_
  rw [rule_in]
  rfl
theorem ok_rowsbynumber (T : Txt K mg) : FnOk P w K mg base CX0 5 607 (fdOf K 607) ["rule", "rows"] (spD (fun ss s => ∃ (one : Bool) (rows : List Rw), ss = [dS (ruleS one), dL (rwL rows)] ∧ RowsOk rows ∧ s = .ab (DicF (rowsE rows))) noX) := by
  refine Fun.okD (f_rowsbynumber T) sc_rowsbynumber (fun ss s ⟨_, _, h, _⟩ => by rw [h]; rfl) fun cdv A outer h H E hr ss s ⟨one, rows, hs, hok, hv⟩ => ?_
  have hu := hu_of' hr
  subst hs hv
  refine ⟨_, (pss_cons (ps_if (PW.pt (pw_or (pt_cmpR op_notIn_seq (pv 0) (pe_tup (pa_cons (pe_gS rfl (x_ONE T)) (pa_cons (pe_gS rfl (x_NEAR T)) pa_nil))) rfl) (pw_or (pt_not (pt_val (pe_callB call_isi rfl (z_isinstance T) (by decide +kernel) (pa_cons (pv 1) (pa_cons (pe_ty (n := "list") rfl (z_list T) (by decide +kernel)) pa_nil))))) (pw_or1 (pt_not (pt_chain op_le op_le pe_int (pe_callB call_len rfl (z_len T) PySem.boot_len (pa_cons (pv 1) pa_nil)) (pe_gI rfl (i_ROWStree T)))))))) (pss_one ps_never) pss_nil)
      (pss_cons (ps_set (i := 2) sc_rowsbynumber.nd rfl (Or.inl rfl) pe_dnewT)
      (pss_cons (ps_seal (ps_for PassesOwn.never rfl (pi_list (pv 1)) (pg_name (i := 3) sc_rowsbynumber.nd rfl (Or.inl rfl))
      (pss_cons (ps_if (PW.pt (pw_or (pt_not (pt_val (pe_call (ok_isrow T) (hr.mono (by decide)) rfl (g_isrow T) (f_isrow T).kp (b_isrow T) .nil pass0 (pa_cons (pv 3) pa_nil)))) (pw_or1 (pt_cmp (pc_din hu (pe_ix ix_tup (pv 3) pe_int (fun _ _ => rfl)) (pv 2)) rfl)))) (pss_one ps_never) pss_nil)
      (pss_one (ps_dput hu (pv 2) (pe_ix ix_tup (pv 3) pe_int (fun _ _ => rfl)) (pv 3) rfl)))))
      (pss_cons (ps_for PassesOwn.never rfl (pi_keys (pv 2)) (pg_name (i := 4) sc_rowsbynumber.nd rfl (Or.inl rfl))
      (pss_one (ps_if (PW.pt (pw_and (pt_cmpR op_gt (pe_callB call_len rfl (z_len T) PySem.boot_len (pa_cons (pv 4) pa_nil)) pe_int (nomark _)) (pw_and1 (pt_cmp (pc_dnotin hu (pe_slice sl_tupA (pv 4) po_none (po_some (pe_un un_neg pe_int))) (pv 2)) rfl)))) (pss_one ps_never) pss_nil)))
      (pss_one (ps_ret (pv 2))))))), fun B0 H0 => ?_⟩
  have hlk : (rwL rows).length = rows.length := by simp [rwL]
  have hle := hok.le
  have hpos := hok.pos
  refine ws_seq (ws_if (b := false) (et_orF ((et_test (ev_notInSS (l := ["one", "near"]) (ev_var rfl) (ev_tup (κ := .pl) (ds := [.str "one", .str "near"]) (ea_cons ev_str (ea_cons ev_str ea_nil)) (by decide)))).is (by rw [rule_in]; rfl)) (et_orF (et_notT (et_valT (ev_isLstD (x := .list (rwL rows)) (ev_var rfl)))) (et_notT ((et_test (ev_chainLe ev_int (ev_lenL (ds := rwL rows) (ev_var rfl)) ev_int)).is ?_)))) (fun h => by cases h) fun _ => ws_next ?_)
  · rw [hlk]; simp; omega
  refine ws_seq (ws_asg ev_dnew ?_)
  refine ws_seq (ws_seal (i := 2) (kvs := rowsE rows) (ws_forL (κ := .pl) (ds := rwL rows) (f := fun x Γ => Γ.set 3 (some (.d x .pl))) (ev_var rfl) (fun x _ => tg_name) (fun i Γ' => ∃ o p, Γ' = [some (dS (ruleS one)), some (dL (rwL rows)), some (.owd (rowsE (rows.take i))), o, p]) ⟨none, none, rfl⟩ ?_ ?_))
  · rintro i x Γ' hx ⟨o, p, rfl⟩
    obtain ⟨r, hri, rfl⟩ := rows_get hx
    have hm := List.mem_of_getElem? hri
    have hnot : hasK r.num (rowsE (rows.take i)) = false := by
      rw [hasK_iff, rowsE_keys]
      exact decide_eq_false (take_not hri hok.nod)
    refine ws_seq (ws_if (b := false) (et_orF (et_notT (et_valT (ev_call (ea_cons (ev_var rfl) ea_nil) ⟨r, rfl, hok.ne r hm, hok.len r hm, hok.val r hm, rfl⟩))) ((et_B (ev_din (i := 2) rfl (row_num (ev_var rfl)))).is hnot)) (fun h => by cases h) fun _ => ws_next ?_)
    refine ws_dput (s := .d r.enc) (i := 2) rfl (ev_var rfl) (row_num (ev_var rfl)) hnot ?_ rfl ⟨some (.d r.enc), p, ?_⟩
    · have := List.length_take_le i rows
      have := (List.getElem?_eq_some_iff.mp hri).1
      simp only [rowsE, List.length_map]
      omega
    · rw [List.take_add_one, hri]
      simp [rowsE]
  · rintro Γ' ⟨o, p, rfl⟩
    rw [hlk, List.take_length]
    refine ⟨rfl, ?_⟩
    refine ws_seq (ws_forD (kvs := rowsE rows) (j := 4) (ev_var rfl) (fun _ _ h => h) (fun i Γ' => ∃ o p, Γ' = [some (dS (ruleS one)), some (dL (rwL rows)), some (.ab (DicF (rowsE rows))), o, p]) ⟨o, p, rfl⟩ ?_ ?_)
    · rintro i e Γ' he ⟨o, p, rfl⟩
      obtain ⟨r, hri, rfl⟩ : ∃ r, rows[i]? = some r ∧ (r.num, slP (.d r.enc)) = e := by
        unfold rowsE at he
        rw [List.getElem?_map] at he
        cases q : rows[i]? with
        | none => rw [q] at he; cases he
        | some y => rw [q] at he; exact ⟨y, rfl, Option.some.inj he⟩
      have hm := List.mem_of_getElem? hri
      refine ws_if (b := decide ((1 : Int) < (r.num.length : Nat)) && !hasK r.num.dropLast (rowsE rows)) (et_and ((et_test (ev_gt (ev_lenT (ds := iL r.num) (ev_var rfl)) ev_int)).is (by rw [iL_len])) fun _ => et_B (ev_dnotinR (ev_var rfl) (fun _ _ h => DicF.rd h) (ev_dropLast (ev_var rfl)))) (fun hb => ?_) fun _ => ws_next ⟨o, _, rfl⟩
      simp only [Bool.and_eq_true, decide_eq_true_eq] at hb
      rw [hasK_iff, rowsE_keys, decide_eq_true (hok.clo r hm (by omega))] at hb
      exact absurd hb.2 (by decide)
    · rintro Γ' ⟨o, p, rfl⟩
      exact ws_ret (ev_var rfl) rfl
end TG
set_option Elab.async false
set_option linter.all false
set_option maxRecDepth 100000
set_option maxHeartbeats 4000000
/-! W9: the tree's methods. -/
namespace TG
open PySem PySem.Spec PyProof.Rows L2
variable {P : Program} {w : World} {K : KF} {mg : Str → Option Value} {base : Heap}
theorem FnOk.all {ι : Type} {k : Nat} {f : Addr} {fd : FuncData} {ps : List Str} {Pf : ι → Prom} (F : ∀ n, FnOk P w K mg base CX0 k f fd ps (spD (Pf n) noX)) : FnOk P w K mg base CX0 k f fd ps (spD (fun ss s => ∃ n, Pf n ss s) noX) where
  len := fun vs H Q E h => by
    obtain ⟨B, ss, e, r, ⟨s, ⟨n, hp⟩, q⟩ | ⟨x, hx, _⟩⟩ := h
    · exact (F n).len vs H Q E ⟨B, ss, e, r, .inl ⟨s, hp, q⟩⟩
    · exact hx.elim
  run := fun A outer s H args us vs Q E hr he hb hv hs => by
    obtain ⟨B, ss, e, r, ⟨s', ⟨n, hp⟩, q⟩ | ⟨x, hx, _⟩⟩ := hs
    · exact (F n).run A outer s H args us vs Q E hr he hb hv ⟨B, ss, e, r, .inl ⟨s', hp, q⟩⟩
    · exact hx.elim
def slS (x : Str) : Pv := slP (dS x)
def rulesE (one : Bool) (rows : List Rw) : List Ent := ([], slS (ruleS one)) :: rows.map fun r => (r.num, slS (ruleS r.one))
def notedE (rows : List Rw) : List Ent := rows.map fun r => (r.num, slP (.ab (NtP r.note)))
def cntN (ks : List Knd) (n : Nt) : Int := (((allLooks ks.length).filter fun l => n.cl ks l).length : Nat)
def countE (ks : List Knd) (rows : List Rw) : List Ent := rows.map fun r => (r.num, slP (dI (cntN ks r.note)))
def Tree1 (ks : List Knd) (rows : List Rw) (x dx : Addr) (v1 v2 v3 v4 : V) : Pv := fun B v => v = .ref x ∧ B x = some (.ins 662 dx [("order", v1), ("rules", v2), ("noted", v3), ("counted", v4)]) ∧ Rp B v1 (.list (ksL ks)) ∧ DicF (notedE rows) B v3
def TreeP (ks : List Knd) (one : Bool) (rows : List Rw) : Pv := fun B v => ∃ x dx v1 v2 v3 v4, Tree1 ks rows x dx v1 v2 v3 v4 B v ∧ DicP (rulesE one rows) B v2 ∧ DicP (countE ks rows) B v4
/-- what claims needs -/
def Tree0 (ks : List Knd) (rows : List Rw) : Pv := fun B v => ∃ x dx v1 v2 v3 v4, Tree1 ks rows x dx v1 v2 v3 v4 B v
theorem TreeP.t0 {ks : List Knd} {one : Bool} {rows : List Rw} {B : Hp} {v : V} (h : TreeP ks one rows B v) : Tree0 ks rows B v := let ⟨x, dx, v1, v2, v3, v4, h, _⟩ := h; ⟨x, dx, v1, v2, v3, v4, h⟩
section
variable {Γ : Cxt} {te ta tb : TE} {s : Sl}
theorem Ab.imp {φ ψ : Pv} {B : Hp} {v : V} (h : Ab φ B v) (i : ∀ B v, φ B v → ψ B v) : Ab ψ B v := let ⟨B0, e, p⟩ := h; ⟨B0, e, i _ _ p⟩
theorem ev_abI {φ ψ : Pv} (h : EvS te Γ (.ab φ)) (i : ∀ B v, φ B v → ψ B v) : EvS te Γ (.ab ψ) := fun B H σ Q g q => h B H σ Q g fun v B1 H1 st r _ => q v B1 H1 st (Ab.imp r i) (.no rfl)
end
theorem fl_order (ks : List Knd) (rows : List Rw) : Fld (Tree0 ks rows) 662 "order" (dL (ksL ks)) := fun B v h => by
  obtain ⟨x, dx, v1, v2, v3, v4, rfl, h, h1, _⟩ := h
  exact ⟨x, dx, _, v1, rfl, h, rfl, h1⟩
theorem fl_noted (ks : List Knd) (rows : List Rw) : Fld (Tree0 ks rows) 662 "noted" (.ab (DicF (notedE rows))) := fun B v h => by
  obtain ⟨x, dx, v1, v2, v3, v4, rfl, h, _, h2⟩ := h
  exact ⟨x, dx, _, v3, rfl, h, rfl, Ab.of h2⟩
theorem fl_rules (ks : List Knd) (one : Bool) (rows : List Rw) : Fld (TreeP ks one rows) 662 "rules" (.ab (DicP (rulesE one rows))) := fun B v h => by
  obtain ⟨x, dx, v1, v2, v3, v4, ⟨rfl, h, _, _⟩, h2, _⟩ := h
  exact ⟨x, dx, _, v2, rfl, h, rfl, Ab.of h2⟩
theorem fl_counted (ks : List Knd) (one : Bool) (rows : List Rw) : Fld (TreeP ks one rows) 662 "counted" (.ab (DicP (countE ks rows))) := fun B v h => by
  obtain ⟨x, dx, v1, v2, v3, v4, ⟨rfl, h, _, _⟩, _, h2⟩ := h
  exact ⟨x, dx, _, v4, rfl, h, rfl, Ab.of h2⟩
theorem rc_tree (ks : List Knd) (rows : List Rw) (m : Str) (hm : ∀ v1 v2 v3 v4 : V, List.lookup m [(("order" : Str), v1), ("rules", v2), ("noted", v3), ("counted", v4)] = none := by exact fun _ _ _ _ => rfl) : Rcv (Tree0 ks rows) 662 m := fun B v h => by
  obtain ⟨x, dx, v1, v2, v3, v4, rfl, h, _, _⟩ := h
  exact ⟨x, dx, _, rfl, h, hm v1 v2 v3 v4⟩
def fnds (rows : List Rw) (n : List Int) : Option Rw := rows.find? fun r => decide (r.num = n)
theorem fnd_map {rows : List Rw} {n : List Int} {r : Rw} (h : fnds rows n = some r) (F : Rw → Pv) : (rows.map fun r => (r.num, F r)).find? (fun e => decide (e.1 = n)) = some (r.num, F r) := by
  rw [List.find?_map]
  unfold fnds at h
  have : (rows.find? ((fun e : Ent => decide (e.1 = n)) ∘ fun r => (r.num, F r))) = some r := h
  rw [this]
  rfl
theorem fnd_num {rows : List Rw} {n : List Int} {r : Rw} (h : fnds rows n = some r) : r.num = n ∧ r ∈ rows := by
  have := List.find?_some h
  exact ⟨of_decide_eq_true this, List.mem_of_find?_eq_some h⟩
theorem fnd_of {rows : List Rw} {r : Rw} (hr : r ∈ rows) (hn : (rows.map Rw.num).Nodup) : fnds rows r.num = some r := by
  unfold fnds
  induction rows with
  | nil => cases hr
  | cons q l ih =>
    rw [List.map_cons, List.nodup_cons] at hn
    rcases List.mem_cons.mp hr with rfl | hr
    · rw [List.find?_cons_of_pos (by simp)]
    · have : q.num ≠ r.num := fun e => hn.1 (by rw [e]; exact List.mem_map.mpr ⟨r, hr, rfl⟩)
      rw [List.find?_cons_of_neg (by simpa using this)]
      exact ih hr hn.2
theorem ok_Treekinds (T : Txt K mg) : FnOk P w K mg base CX0 1 626 (fdOf K 626) ["self"] (spD (fun ss s => ∃ ks rows, ss = [.ab (Tree0 ks rows)] ∧ s = .own (ksL ks)) noX) := by
  refine Fun.okD (f_Treekinds T) sc_Treekinds (fun ss s ⟨_, _, h, _⟩ => by rw [h]; rfl) fun cdv A outer h H E hr ss s ⟨ks, rows, hs, hv⟩ => ?_
  subst hs hv
  exact ⟨_, (pss_one (ps_ret (pe_callTy call_list_of rfl (z_list T) (by decide +kernel) (pa_cons (pe_fld (pv 0) rfl) pa_nil)))), fun B0 H0 => ws_ret (ev_listL (ev_fld (ev_var rfl) (c_Tree T) (n_Tree_order T) (fl_order ks rows))) rfl⟩
def belowD (rows : List Rw) (at_ : List Int) : List PyData := (nL ((rows.map Rw.num).filter fun n => decide (n.dropLast = at_))).mergeSort (PySem.W.dataLe false id)
def belowN (rows : List Rw) (at_ : List Int) : List (List Int) := (belowD rows at_).map unN
theorem belowD_mem {rows : List Rw} {at_ : List Int} {d : PyData} (h : d ∈ belowD rows at_) : ∃ n, n ∈ rows.map Rw.num ∧ n.dropLast = at_ ∧ d = encN n := by
  have := (List.mergeSort_perm (nL ((rows.map Rw.num).filter fun n => decide (n.dropLast = at_))) (PySem.W.dataLe false id)).mem_iff.mp h
  obtain ⟨n, hn, rfl⟩ := List.mem_map.mp this
  obtain ⟨h1, h2⟩ := List.mem_filter.mp hn
  exact ⟨n, h1, of_decide_eq_true h2, rfl⟩
theorem belowN_enc (rows : List Rw) (at_ : List Int) : nL (belowN rows at_) = belowD rows at_ := by
  unfold nL belowN
  rw [List.map_map]
  refine (List.map_congr_left fun d hd => ?_).trans (List.map_id _)
  obtain ⟨n, _, _, rfl⟩ := belowD_mem hd
  show encN (unN (encN n)) = id (encN n)
  rw [unN_N]; rfl
theorem belowN_mem {rows : List Rw} {at_ n : List Int} : n ∈ belowN rows at_ ↔ n ∈ rows.map Rw.num ∧ n.dropLast = at_ := by
  constructor
  · intro h
    obtain ⟨d, hd, rfl⟩ := List.mem_map.mp h
    obtain ⟨n, h1, h2, rfl⟩ := belowD_mem hd
    rw [unN_N]
    exact ⟨h1, h2⟩
  · rintro ⟨h1, h2⟩
    refine List.mem_map.mpr ⟨encN n, ?_, unN_N n⟩
    refine (List.mergeSort_perm _ _).mem_iff.mpr (List.mem_map.mpr ⟨n, List.mem_filter.mpr ⟨h1, decide_eq_true h2⟩, rfl⟩)
theorem nums_alike (l : List (List Int)) : PySem.W.AllAlike (nL l) := by
  intro d hd d' hd'
  obtain ⟨a, _, rfl⟩ := List.mem_map.mp hd
  obtain ⟨b, _, rfl⟩ := List.mem_map.mp hd'
  exact alike_N _ _
theorem nums_sortable {l : List (List Int)} (h : ∀ n ∈ l, n ≠ []) : PySem.W.Sortable (nL l) := by
  refine Or.inl fun d hd => ?_
  obtain ⟨n, hn, rfl⟩ := List.mem_map.mp hd
  cases n with
  | nil => exact absurd rfl (h [] hn)
  | cons x l => exact ⟨.int x, l.map PyData.int, rfl⟩
theorem nums_depth (l : List (List Int)) : ∀ d ∈ nL l, d.depth ≤ 60 := fun d hd => by
  obtain ⟨n, _, rfl⟩ := List.mem_map.mp hd
  exact Nat.le_trans (gd_N n).2 (by decide)
theorem filt_below (l : List (List Int)) (at_ : List Int) : (nL l).filter (fun d => decide ((unN d).dropLast = at_)) = nL (l.filter fun n => decide (n.dropLast = at_)) := by
  unfold nL
  rw [List.filter_map]
  congr 1
  apply List.filter_congr
  intro n _
  simp only [Function.comp, unN_N]
theorem notedE_keys (rows : List Rw) : keysL (notedE rows) = nL (rows.map Rw.num) := by
  unfold keysL notedE nL
  rw [List.map_map, List.map_map]; rfl
theorem ok_Treebelow (T : Txt K mg) : FnOk P w K mg base CX0 1 631 (fdOf K 631) ["self", "at"] (spD (fun ss s => ∃ ks rows at_, ss = [.ab (Tree0 ks rows), .d (encN at_)] ∧ RowsOk rows ∧ s = .own (nL (belowN rows at_))) noX) := by
  refine Fun.okD (f_Treebelow T) sc_Treebelow (fun ss s ⟨_, _, _, h, _⟩ => by rw [h]; rfl) fun cdv A outer h H E hr ss s ⟨ks, rows, at_, hs, hok, hv⟩ => ?_
  have hu65 := hu65_of hr
  have hu64 : A.units + 3 + 64 < cLine := hr.units
  subst hs hv
  refine ⟨_, (pss_one (ps_ret (pe_callB (cr_sortD (κ := .pl) hu65) rfl (z_sorted T) (by decide +kernel) (pa_cons (pe_lc (own := [("number", 2)]) rfl sc_Treebelow.nd (pi_keys (pe_fld (pv 0) rfl)) (blkOk_by (own := [("number", 2)]) (N := N_Treebelow) (sc := defScope s_Treebelow) (by decide +kernel)) (fun _ _ _ _ _ => pg_name (i := 2) sc_Treebelow.nd rfl (Or.inl rfl)) (fun _ _ _ _ _ => (pts_one (pt_cmpR (r := rEqD K) (op_eqD hu64) (pe_slice (r := rSlA K) sl_tupA (pv 2) po_none (po_some (pe_un un_neg pe_int))) (pv 1) (nomark _)))) (fun _ _ _ _ _ => (pv 2))) pa_nil)))), fun B0 H0 => ws_ret ?_ rfl⟩
  have hle := hok.le
  refine (ev_sortD (κ := .pl) (ds := nL ((rows.map Rw.num).filter fun n => decide (n.dropLast = at_))) ((ev_fz (ev_lcD (kvs := notedE rows) (fun d => decide ((unN d).dropLast = at_)) id (ev_fld (ev_var rfl) (c_Tree T) (n_Tree_noted T) (fl_noted ks rows)) (fun _ _ h => h) (List.mem_cons_self ..) (by simp only [notedE, List.length_map]; omega) (fun e he => ?_) (fun e he _ => ev_var rfl))).is ?_) (nums_alike _) (nums_sortable fun n hn => ?_) (nums_depth _)).is ?_
  · rw [unN_N]
    exact (et_test (ev_eqD (κ := .pl) (κ' := .pl) (ev_dropLast (ev_var rfl)) (ev_var rfl) ((gd_N _).shaped (by decide)) ((gd_N _).shaped (by decide)))).is (eqv_N _ _)
  · rw [List.map_id, notedE_keys, filt_below]
  · obtain ⟨r, hr, rfl⟩ := List.mem_map.mp (List.mem_filter.mp hn).1
    exact hok.ne r hr
  · rw [belowN_enc]; rfl
theorem ok_Treeruleat (T : Txt K mg) : FnOk P w K mg base CX0 1 645 (fdOf K 645) ["self", "at"] (spD (fun ss s => ∃ ks one rows at_ b, ss = [.ab (TreeP ks one rows), .d (encN at_)] ∧ ((at_ = [] ∧ b = one) ∨ ∃ r, at_ ≠ [] ∧ fnds rows at_ = some r ∧ b = r.one) ∧ s = dS (ruleS b)) noX) := by
  refine Fun.okD (f_Treeruleat T) sc_Treeruleat (fun ss s ⟨_, _, _, _, _, h, _⟩ => by rw [h]; rfl) fun cdv A outer h H E hr ss s ⟨ks, one, rows, at_, b, hs, hb, hv⟩ => ?_
  have hu := hu_of' hr
  subst hs hv
  refine ⟨_, (pss_one (ps_ret (pe_dget hu (pe_fld (pv 0) rfl) (pv 1) (fun _ _ => rfl)))), fun B0 H0 => ws_ret ?_ rfl⟩
  have key : ∀ e : Ent, (rulesE one rows).find? (fun e => decide (e.1 = at_)) = some e → e.2 = slS (ruleS b) → EvS (tDGet (tFld K (tVar 0) "rules") (tVar 1)) (stG N_Treeruleat [.ab (TreeP ks one rows), .d (encN at_)]) (dS (ruleS b)) := fun e he h2 =>
    ev_dgetR (kvs := rulesE one rows) (φ := DicP (rulesE one rows)) (ev_fld (ev_var rfl) (c_Tree T) (n_Tree_rules T) (fl_rules ks one rows)) (fun _ _ h => DicP.rd h) (ev_var rfl) he fun B w h => slP_ab (s := dS (ruleS b)) rfl (by rw [h2] at h; exact h)
  rcases hb with ⟨rfl, rfl⟩ | ⟨r, hne, hf, rfl⟩
  · exact key ([], slS (ruleS b)) rfl rfl
  · refine key (r.num, slS (ruleS r.one)) ?_ rfl
    unfold rulesE
    rw [List.find?_cons_of_neg (by simpa using hne)]
    exact fnd_map hf fun r => slS (ruleS r.one)
theorem ok_Treelooked (T : Txt K mg) : FnOk P w K mg base CX0 1 659 (fdOf K 659) ["self", "number"] (spD (fun ss s => ∃ ks one rows n r, ss = [.ab (TreeP ks one rows), .d (encN n)] ∧ fnds rows n = some r ∧ s = dI (cntN ks r.note)) noX) := by
  refine Fun.okD (f_Treelooked T) sc_Treelooked (fun ss s ⟨_, _, _, _, _, h, _⟩ => by rw [h]; rfl) fun cdv A outer h H E hr ss s ⟨ks, one, rows, n, r, hs, hf, hv⟩ => ?_
  have hu := hu_of' hr
  subst hs hv
  exact ⟨_, (pss_one (ps_ret (pe_dget hu (pe_fld (pv 0) rfl) (pv 1) (fun _ _ => rfl)))), fun B0 H0 => ws_ret (ev_dgetR (kvs := countE ks rows) (φ := DicP (countE ks rows)) (ev_fld (ev_var rfl) (c_Tree T) (n_Tree_counted T) (fl_counted ks one rows)) (fun _ _ h => DicP.rd h) (ev_var rfl) (fnd_map hf fun r => slP (dI (cntN ks r.note))) fun B w h => slP_ab (s := dI (cntN ks r.note)) rfl h) rfl⟩
/-- the tree's kinds and looks fit -/
structure KsOk (ks : List Knd) : Prop where
  pos : 1 ≤ ks.length
  le : ks.length ≤ 4
  nm : ∀ k ∈ ks, kndB k = true
  nod : ks.Nodup
theorem KsOk.ok {ks : List Knd} (h : KsOk ks) : ∀ k ∈ ks, kOk k := fun k hk => ok_knd (h.nm k hk)
theorem ok_Treeclaims (T : Txt K mg) : FnOk P w K mg base CX0 7 652 (fdOf K 652) ["self", "number", "look"] (spD (fun ss s => ∃ (κ : TK) (ks : List Knd) (rows : List Rw) (n : List Int) (r : Rw) (look : List Int), ss = [.ab (Tree0 ks rows), .d (encN n), .d (.tuple (iL look)) κ] ∧ KsOk ks ∧ RowsOk rows ∧ fnds rows n = some r ∧ look.length = ks.length ∧ s = dB (r.note.cl ks look)) noX) := by
  refine Fun.okD (f_Treeclaims T) sc_Treeclaims (fun ss s ⟨_, _, _, _, _, _, h, _⟩ => by rw [h]; rfl) fun cdv A outer h H E hr ss s ⟨κ, ks, rows, n, r, look, hs, hk, hok, hf, hl, hv⟩ => ?_
  have hu := hu_of' hr
  subst hs hv
  obtain ⟨h1, h2⟩ := fnd_num hf
  have hd := hok.dep r h2
  refine ⟨_, (pss_one (ps_ret (pe_meth (pe_dget hu (pe_fld (pv 0) rfl) (pv 1) (fun _ _ => rfl)) (nc T r.note) (nm T r.note) (ok_claims T r.note) (hr.mono (by omega)) (nb T r.note) .nil pass0 (pa_cons (pe_fld (pv 0) rfl) (pa_cons (pv 2) pa_nil))))), fun B0 H0 => ws_ret ?_ rfl⟩
  have hle := hk.le
  exact ev_meth (φ := NtP r.note) (ev_dgetR (s := .ab (NtP r.note)) (kvs := notedE rows) (φ := DicF (notedE rows)) (ev_fld (ev_var rfl) (c_Tree T) (n_Tree_noted T) (fl_noted ks rows)) (fun _ _ h => DicF.rd h) (ev_var rfl) (fnd_map hf fun r => slP (.ab (NtP r.note))) fun B w h => slP_ab (s := .ab (NtP r.note)) rfl h) (nr r.note) (ea_cons (ev_fld (ev_var rfl) (c_Tree T) (n_Tree_order T) (fl_order ks rows)) (ea_cons (ev_var rfl) ea_nil)) ⟨κ, ks, look, rfl, hl, hk.pos, by omega, hk.ok, hok.ok r h2, rfl⟩
end TG
set_option Elab.async false
set_option linter.all false
set_option maxRecDepth 100000
set_option maxHeartbeats 8000000
/-! W10: the tree made. -/
namespace TG
open PySem PySem.Spec PyProof.Rows L2
variable {P : Program} {w : World} {K : KF} {mg : Str → Option Value} {base : Heap}
def NoOwn (Γ : Cxt) : Prop := ∀ (i : Nat) (s : Sl), Γ[i]? = some (some s) → s.isOwn = false
theorem NoOwn.set {Γ : Cxt} {i : Nat} {s : Sl} (h : NoOwn Γ) (n : s.isOwn = false) : NoOwn (Γ.set i (some s)) := fun j t e => by
  rcases set_get e with ⟨_, q, _⟩ | ⟨_, q⟩
  · cases q; exact n
  · exact h j t q
theorem GR.to {B H B' H' : Hp} {σ : L2.St} {Γ : Cxt} (g : GR B H σ Γ) (no : NoOwn Γ) (b : Gr B B') (h : Gr B' H') : GR B' H' σ Γ :=
  ⟨h, g.len, fun i s e => let ⟨v, h1, h2⟩ := g.at_ i s e; ⟨v, h1, h2.grow (no i s e) b⟩, g.ow⟩
theorem gr_upd {B H : Hp} {x : Addr} {o : HO} (e : Gr B H) (h : B x = none) : Gr B (upd H x o) := fun b u q => by rw [upd_ne (ne_of_none q h)]; exact e b u q
theorem gr_add {B H : Hp} {x : Addr} {o : HO} (e : Gr B H) (h : H x = some o) : Gr (upd B x o) H := fun b u q => by
  by_cases hb : b = x
  · subst hb; rw [upd_same] at q; rw [h]; exact q
  · rw [upd_ne hb] at q; exact e b u q
theorem Step.upd' {B0 H0 B H : Hp} {a : Addr} {o : HO} (s : Step B0 H0 B H) (h0 : H0 a = none) (hB : B a = none) : Step B0 H0 B (upd H a o) :=
  ⟨s.bb, fun b u q => by rw [upd_ne (ne_of_none q h0)]; exact s.hh b u q, gr_upd s.bh hB, s.fr⟩
theorem Step.add' {B0 H0 B H : Hp} {a : Addr} {o : HO} (s : Step B0 H0 B H) (h0 : H0 a = none) (hB : B a = none) (h : H a = some o) : Step B0 H0 (upd B a o) H :=
  ⟨s.bb.trans (Gr.new hB), s.hh, gr_add s.bh h, fun b u q r n => by rw [upd_ne (ne_of_none r h0)]; exact s.fr b u q r n⟩
/-- self's slot -/
def IsX (φ : Pv) (x : Addr) : Prop := ∀ B v, Ab φ B v → v = .ref x
theorem self_at {B H : Hp} {σ : L2.St} {Γ : Cxt} {φ : Pv} {x : Addr} (g : GR B H σ Γ) (h : Γ[0]? = some (some (.ab φ))) (i : IsX φ x) : σ[0]? = some (some (.ref x)) := by
  obtain ⟨v, h1, h2⟩ := g.at_ 0 _ h
  rw [h1, i B v h2]
theorem raw_put {B H : Hp} {σ : L2.St} {Γ : Cxt} {φ : Pv} {x dx n : Addr} {fs : List (Str × V)} {f : Str} {vs : List (List Key × V)} {kvs : List Ent} {k : List Int} {s : Sl} {tv : TE} {D : Ends} (c : Cls K 662) (na : NoAttr K 662 f) (g : GR B H σ Γ) (no : NoOwn Γ)
    (h0 : Γ[0]? = some (some (.ab φ))) (ix : IsX φ x) (h5 : Γ[5]? = some (some (.d (encN k)))) (hx : H x = some (.ins 662 dx fs)) (hf : fs.lookup f = some (.ref n)) (hn : H n = some (.dT vs)) (hd : DicV B vs kvs) (hB : B n = none) (hk : hasK k kvs = false) (hl : kvs.length < 100000)
    (hv : EvS tv Γ s) (ns : s.isOwn = false) (cont : ∀ B2 H2 vs2, Step B H B2 H2 → GR B2 (upd H2 n (.dT vs2)) σ Γ → DicV B2 vs2 (kvs ++ [(k, slP s)]) → B2 n = none → D.nx σ (upd H2 n (.dT vs2))) : sDPut (tFld K (tVar 0) f) (tVar 5) tv D σ H := by
  refine hv B H σ _ g fun v B1 H1 st1 r1 _ => ?_
  have g1 := g.step st1
  refine ⟨.ref x, self_at g1 h0 ix, x, 662, dx, fs, .ref n, rfl, st1.hh _ _ hx, c, na, hf, ?_⟩
  obtain ⟨y, e1, e2⟩ := g1.at_ 5 _ h5
  refine ⟨y, e1, n, upd H1 n (.dT (putK vs (k.map Sum.inl) v)), rfl, ?_, ?_⟩
  · obtain ⟨b, rfl, h6⟩ := encN_inv e2
    exact DPut.t (st1.hh _ _ hn) (st1.bh _ _ h6) (Nat.lt_of_lt_of_le (by rw [hd.len]; exact hl) (by decide : 100000 ≤ sizeLine))
  · have hnv : valV vs (k.map Sum.inl) = none := by
      have := hd.has (k := k)
      rw [hk] at this
      cases q : valV vs (k.map Sum.inl) with
      | none => rfl
      | some x => rw [q] at this; cases this
    have hB1 : B1 n = none := st1.fr n _ hB hn trivial
    rw [put_new hnv]
    exact cont B1 H1 _ st1 (g1.to no .rfl (gr_upd st1.bh hB1)) ((DicV.mono st1.bb hd).snoc (Ab.of (r1.grow ns .rfl))) hB1
theorem raw_seq {ts tu : TS} {D : Ends} {σ : L2.St} {H : Hp} (h : ts { D with nx := tu D } σ H) : tSeq ts tu D σ H := h
theorem raw_asg {te : TE} {i : Nat} {D : Ends} {σ : L2.St} {H B : Hp} {Γ : Cxt} {s : Sl} (h : EvS te Γ s) (g : GR B H σ Γ) (k : ∀ v B' H', Step B H B' H' → SlR B' H' v s → Frs H v s → D.nx (σ.set i (some v)) H') : tAsg te (gName i) D σ H := h B H σ _ g k
theorem raw_fld {tv : TE} {f : Str} {D : Ends} {σ : L2.St} {H B : Hp} {Γ : Cxt} {s : Sl} {x dx : Addr} {fs : List (Str × V)} (c : Cls K 662) (na : NoAttr K 662 f) (h : EvS tv Γ s) (g : GR B H σ Γ) (h0 : σ[0]? = some (some (.ref x))) (hx : H x = some (.ins 662 dx fs)) (hl : fs.length < 1000)
    (k : ∀ v B' H', Step B H B' H' → SlR B' H' v s → Frs H v s → H' x = some (.ins 662 dx fs) → D.nx σ (upd H' x (.ins 662 dx (putF f v fs)))) : sFld K (tVar 0) tv f D σ H :=
  h B H σ _ g fun v B1 H1 st r f => ⟨.ref x, h0, x, 662, dx, fs, rfl, st.hh _ _ hx, c, na, hl, k v B1 H1 st r f (st.hh _ _ hx)⟩
def spTree : Sp := fun vs H Q E => ∃ (B : Hp) (x dx : Addr) (ks : List Knd) (one : Bool) (rows : List Rw) (ws : List V), vs = .ref x :: ws ∧ Gr B H ∧ H x = some (.ins 662 dx []) ∧ B x = none ∧ SlA B H ws [dL (ksL ks), dS (ruleS one), dL (rwL rows)] ∧ KsOk ks ∧ RowsOk rows ∧
  ∀ B' H', Step B (cutA H x) B' H' → TreeP ks one rows B' (.ref x) → Q .non H'
theorem ok_noteofA (T : Txt K mg) : FnOk P w K mg base CX0 9 593 (fdOf K 593) ["told"] (spD (fun ss s => ∃ n : Nt, ∃ (κ : TK), ss = [.d n.enc κ] ∧ n.dep ≤ 5 ∧ n.ok = true ∧ s = .ab (NtP n)) noX) := FnOk.all fun n => ok_noteof T n
theorem rows_snoc {rows : List Rw} {i : Nat} {r : Rw} (h : rows[i]? = some r) : rows.take (i + 1) = rows.take i ++ [r] := by
  rw [List.take_add_one, h]; rfl
theorem ok_Treeinit (T : Txt K mg) : FnOk P w K mg base CX0 11 619 (fdOf K 619) ["self", "kinds", "rule", "rows"] spTree := by
  refine (f_Treeinit T).ok sc_Treeinit (fun vs H Q E ⟨B, x, dx, ks, one, rows, ws, e, _, _, _, r, _⟩ => by rw [e, List.length_cons, r.len]; rfl) (fun cdv A outer h H vs Q E hr hsp => ?_)
  have hu := hu_of' hr
  have hu65 := hu65_of hr
  obtain ⟨B0, x, dx, ks, one, rows, ws, rfl, gBH, hx, hBx, r, hk, hok, q⟩ := hsp
  refine ⟨_, (pss_cons (ps_fld (pv 0) (pe_call (ok_kindsof T) (hr.mono (by decide)) rfl (g_kindsof T) (f_kindsof T).kp (b_kindsof T) .nil pass0 (pa_cons (pv 1) pa_nil)) rfl)
      (pss_cons (ps_set (i := 4) sc_Treeinit.nd rfl (Or.inl rfl) (pe_call (ok_rowsbynumber T) (hr.mono (by decide)) rfl (g_rowsbynumber T) (f_rowsbynumber T).kp (b_rowsbynumber T) .nil pass0 (pa_cons (pv 2) (pa_cons (pv 3) pa_nil))))
      (pss_cons (ps_fld (pv 0) (pe_dispT1 hr.units0 (pe_tup pa_nil) (pv 2)) rfl)
      (pss_cons (ps_fld (pv 0) pe_dnewT rfl)
      (pss_cons (ps_seal (ps_for PassesOwn.never rfl (pi_keys (pv 4)) (pg_name (i := 5) sc_Treeinit.nd rfl (Or.inr rfl))
      (pss_cons (ps_dput hu (pe_fld (pv 0) rfl) (pv 5) (pe_call (ok_noteofA T) (hr.mono (by decide)) rfl (g_noteof T) (f_noteof T).kp (b_noteof T) .nil pass0 (pa_cons (pe_ix ix_tup (pe_dget hu (pv 4) (pv 5) (fun _ _ => rfl)) pe_int (fun _ _ => rfl)) pa_nil)) rfl)
      (pss_one (ps_dput hu (pe_fld (pv 0) rfl) (pv 5) (pe_ix ix_tup (pe_dget hu (pv 4) (pv 5) (fun _ _ => rfl)) pe_int (fun _ _ => rfl)) rfl)))))
      (pss_cons (ps_fld (pv 0) pe_dnewT rfl)
      (pss_cons (ps_set (i := 6) sc_Treeinit.nd rfl (Or.inl rfl) (pe_call (ok_alllooks T) (hr.mono (by decide)) rfl (g_alllooks T) (f_alllooks T).kp (b_alllooks T) .nil pass0 (pa_cons (pe_callB call_len rfl (z_len T) PySem.boot_len (pa_cons (pe_fld (pv 0) rfl) pa_nil)) pa_nil)))
      (pss_one (ps_for PassesOwn.never rfl (pi_keys (pv 4)) (pg_name (i := 5) sc_Treeinit.nd rfl (Or.inr rfl))
      (pss_one (ps_dput hu (pe_fld (pv 0) rfl) (pv 5) (pe_callB call_len rfl (z_len T) PySem.boot_len (pa_cons (pe_lc (own := [("look", 7)]) rfl sc_Treeinit.nd (pi_list (pv 6)) (blkOk_by (own := [("look", 7)]) (N := N_Treeinit) (sc := defScope s_Treeinit) (by decide +kernel)) (fun _ _ _ _ _ => pg_name (i := 7) sc_Treeinit.nd rfl (Or.inl rfl)) (fun _ _ _ _ _ => (pts_one (pt_val (pe_meth (pv 0) (c_Tree T) (m_Tree_claims T) (ok_Treeclaims T) (hr.mono (by decide)) (b_Treeclaims T) .nil pass0 (pa_cons (pv 5) (pa_cons (pv 7) pa_nil)))))) (fun _ _ _ _ _ => (pv 7))) pa_nil)) rfl))))))))))), ?_⟩
  -- the parameters
  have hrl := r.len
  obtain ⟨Hc, hHc⟩ : ∃ Hc, Hc = cutA H x := ⟨_, rfl⟩
  have hcx : Hc x = none := by rw [hHc]; show (if x = x then none else H x) = none; rw [if_pos rfl]
  have hcn : ∀ b, H b = none → Hc b = none := fun b e => by rw [hHc]; show (if b = x then none else H b) = none; split; rfl; exact e
  have S0 : Step B0 Hc B0 H := ⟨.rfl, fun b o e => by rw [hHc] at e; have e' : (if b = x then none else H b) = some o := e; split at e'; cases e'; exact e', gBH, fun _ _ e _ _ => e⟩
  have up : ∀ {B1 H1 : Hp}, Step B0 Hc B1 H1 → ∀ b, H1 b = none → Hc b = none := fun s b e => s.hh.free e
  obtain ⟨φx, hφx⟩ : ∃ φ : Pv, φ = fun _ v => v = .ref x := ⟨_, rfl⟩
  have ix : IsX φx x := fun B v h => by obtain ⟨_, _, h⟩ := h; rw [hφx] at h; exact h
  have nx0 : ∀ B, Ab φx B (.ref x) := fun B => Ab.of (by rw [hφx])
  obtain ⟨σ0, hσ0⟩ : ∃ σ, σ = L2.start N_Treeinit (V.ref x :: ws) := ⟨_, rfl⟩
  obtain ⟨Γ0, hΓ0⟩ : ∃ Γ : Cxt, Γ = [some (.ab φx), some (dL (ksL ks)), some (dS (ruleS one)), some (dL (rwL rows)), none, none, none, none] := ⟨_, rfl⟩
  have g0 : GR B0 H σ0 Γ0 := by
    have := (SR.start (N := N_Treeinit) gBH (SlA.hd (s := .ab φx) (nx0 B0) rfl r)).g
    rw [hσ0, hΓ0]
    exact this
  have no0 : NoOwn Γ0 := by
    intro i s e
    rw [hΓ0] at e
    rcases i with _ | _ | _ | _ | _ | _ | _ | _ | i <;> simp at e <;> subst e <;> rfl
  rw [← hσ0]
  -- self.order
  try dsimp only
  refine raw_seq (raw_fld (c_Tree T) (n_Tree_order T) (Γ := Γ0) (s := dL (ksL ks)) ?_ g0 (self_at g0 (by rw [hΓ0]; rfl) ix) hx (by decide) fun v1 B1 H1 st1 r1 _ hx1 => ?_)
  · rw [hΓ0]; exact ev_fz (ev_call (ea_cons (ev_var rfl) ea_nil) ⟨ks, rfl, hk.pos, hk.le, hk.nm, hk.nod, rfl⟩)
  have S1 := S0.trans st1
  have n1x : B1 x = none := st1.fr x _ hBx hx trivial
  have g1 := g0.step st1
  have S1' := S1.upd' (o := .ins 662 dx [("order", v1)]) hcx n1x
  have g1' := g1.to no0 .rfl (gr_upd (o := .ins 662 dx [("order", v1)]) st1.bh n1x)
  -- known
  try dsimp only
  refine raw_seq (raw_asg (Γ := Γ0) (s := .ab (DicF (rowsE rows))) ?_ g1' fun vk B2 H2 st2 r2 _ => ?_)
  · rw [hΓ0]; exact ev_call (ea_cons (ev_var rfl) (ea_cons (ev_var rfl) ea_nil)) ⟨one, rows, rfl, hok, rfl⟩
  have S2 := S1'.trans st2
  have hx2 := st2.hh _ _ (upd_same (H := H1) (a := x) (o := .ins 662 dx [("order", v1)]))
  have n2x : B2 x = none := st2.fr x _ n1x upd_same trivial
  obtain ⟨Γ1, hΓ1⟩ : ∃ Γ : Cxt, Γ = [some (.ab φx), some (dL (ksL ks)), some (dS (ruleS one)), some (dL (rwL rows)), some (.ab (DicF (rowsE rows))), none, none, none] := ⟨_, rfl⟩
  obtain ⟨σ1, hσ1⟩ : ∃ σ, σ = σ0.set 4 (some vk) := ⟨_, rfl⟩
  have g2 : GR B2 H2 σ1 Γ1 := by
    have := (g1'.step st2).set0 (i := 4) (s := .ab (DicF (rowsE rows))) r2 rfl
    rw [hΓ0] at this
    rw [hσ1, hΓ1]
    exact this
  have no1 : NoOwn Γ1 := by
    intro i s e
    rw [hΓ1] at e
    rcases i with _ | _ | _ | _ | _ | _ | _ | _ | i <;> simp at e <;> subst e <;> rfl
  show tSeq _ _ _ (σ0.set 4 (some vk)) H2
  rw [← hσ1]
  -- self.rules
  try dsimp only
  refine raw_seq ?_
  refine fun p hp => ⟨by decide, fun b hb => ?_⟩
  have nep : b ≠ p := by rintro rfl; rw [upd_same] at hb; cases hb
  have hb2 : H2 b = none := by rw [upd_ne nep] at hb; exact hb
  obtain ⟨y2, ey2, ry2⟩ := g2.at_ 2 (dS (ruleS one)) (by rw [hΓ1]; rfl)
  have ey : y2 = .str (ruleS one) := RpK.str_inv ry2
  refine ⟨y2, ey2, b, [], rfl, upd_same, ?_, ?_⟩
  · rw [upd_ne (Ne.symm nep)]; exact upd_same
  have nxp : x ≠ p := by rintro rfl; rw [hx2] at hp; cases hp
  have nxb : x ≠ b := by rintro rfl; rw [hx2] at hb2; cases hb2
  have B2p : B2 p = none := st2.bh.free hp
  have B2b : B2 b = none := st2.bh.free hb2
  obtain ⟨H3, hH3⟩ : ∃ H3, H3 = upd (upd (upd H2 p (.dT [])) b (.tup [])) p (.dT [([], y2)]) := ⟨_, rfl⟩
  have S3 : Step B0 Hc B2 H3 := by
    rw [hH3]
    exact ((S2.upd' (up S2 p hp) B2p).upd' (up S2 b hb2) B2b).upd' (up S2 p hp) B2p
  have hx3 : H3 x = some (.ins 662 dx [("order", v1)]) := by rw [hH3, upd_ne nxp, upd_ne nxb, upd_ne nxp]; exact hx2
  have hp3 : H3 p = some (.dT [([], y2)]) := by rw [hH3]; exact upd_same
  have g3 : GR B2 H3 σ1 Γ1 := g2.to no1 .rfl S3.bh
  rw [← hH3]
  refine ⟨.ref x, self_at g3 (by rw [hΓ1]; rfl) ix, x, 662, dx, [("order", v1)], rfl, hx3, c_Tree T, n_Tree_rules T, (by show 1 < 1000; decide), ?_⟩
  have e4 : putF "rules" (V.ref p) [(("order" : Str), v1)] = ([("order", v1), ("rules", .ref p)] : List (Str × V)) := rfl
  rw [e4]
  -- self.noted
  try dsimp only
  refine raw_seq ?_
  refine fun n hn => ?_
  have nnx : n ≠ x := by rintro rfl; rw [upd_same] at hn; cases hn
  rw [upd_ne nnx] at hn
  have nnp : n ≠ p := by rintro rfl; rw [hp3] at hn; cases hn
  have B2n : B2 n = none := S3.bh.free hn
  obtain ⟨H4, hH4⟩ : ∃ H4, H4 = upd (upd H3 x (.ins 662 dx [("order", v1), ("rules", .ref p)])) n (.dT []) := ⟨_, rfl⟩
  have S4 : Step B0 Hc B2 H4 := by
    rw [hH4]
    exact (S3.upd' hcx n2x).upd' (up S3 n hn) B2n
  have hx4 : H4 x = some (.ins 662 dx [("order", v1), ("rules", .ref p)]) := by rw [hH4, upd_ne (Ne.symm nnx)]; exact upd_same
  have hp4 : H4 p = some (.dT [([], y2)]) := by rw [hH4, upd_ne (Ne.symm nnp), upd_ne (Ne.symm nxp)]; exact hp3
  have hn4 : H4 n = some (.dT []) := by rw [hH4]; exact upd_same
  have g4 : GR B2 H4 σ1 Γ1 := g3.to no1 .rfl S4.bh
  rw [← hH4]
  refine ⟨.ref x, self_at g4 (by rw [hΓ1]; rfl) ix, x, 662, dx, [("order", v1), ("rules", .ref p)], rfl, hx4, c_Tree T, n_Tree_noted T, (by show 2 < 1000; decide), ?_⟩
  have e5 : putF "noted" (V.ref n) [(("order" : Str), v1), ("rules", .ref p)] = ([("order", v1), ("rules", .ref p), ("noted", .ref n)] : List (Str × V)) := rfl
  rw [e5]
  obtain ⟨fs5, hfs5⟩ : ∃ fs : List (Str × V), fs = ([("order", v1), ("rules", .ref p), ("noted", .ref n)] : List (Str × V)) := ⟨_, rfl⟩
  rw [← hfs5]
  obtain ⟨H5, hH5⟩ : ∃ H5, H5 = upd H4 x (.ins 662 dx fs5) := ⟨_, rfl⟩
  have S5 : Step B0 Hc B2 H5 := by rw [hH5]; exact S4.upd' hcx n2x
  have hx5 : H5 x = some (.ins 662 dx fs5) := by rw [hH5]; exact upd_same
  have hp5 : H5 p = some (.dT [([], y2)]) := by rw [hH5, upd_ne (Ne.symm nxp)]; exact hp4
  have hn5 : H5 n = some (.dT []) := by rw [hH5, upd_ne nnx]; exact hn4
  have g5 : GR B2 H5 σ1 Γ1 := g4.to no1 .rfl S5.bh
  rw [← hH5]
  have hcp : Hc p = none := up S2 p hp
  have hcn' : Hc n = none := up S3 n hn
  -- the first loop
  try dsimp only
  refine raw_seq ?_
  obtain ⟨vk', ek, rk⟩ := g5.at_ 4 (.ab (DicF (rowsE rows))) (by rw [hΓ1]; rfl)
  obtain ⟨Bk, eBk, ak, ok, wk, evk, hak, hdk⟩ := rk
  subst evk
  have hak' : B2 ak = some (.frz ok (.dT wk)) := eBk _ _ hak
  have hdk' := DicV.mono eBk hdk
  have hwl : wk.length = rows.length := by rw [hdk.len]; simp [rowsE]
  have rowAt : ∀ {i : Nat} {p' : List Key × V} {B' : Hp}, Gr B2 B' → wk[i]? = some p' → ∃ r, rows[i]? = some r ∧ p'.1 = r.num.map Sum.inl := fun {i p' B'} e hi => by
    obtain ⟨e', he, hkk, _⟩ := hdk'.get hi
    unfold rowsE at he
    rw [List.getElem?_map] at he
    cases q : rows[i]? with
    | none => rw [q] at he; cases he
    | some r => rw [q] at he; cases he; exact ⟨r, rfl, hkk⟩
  refine ⟨.ref ak, ek, ak, ok, rfl, .inr ⟨wk, g5.ex _ _ hak', for_keysT (fun i σ' H' => ∃ B' vR vN, Step B0 Hc B' H' ∧ GR B' H' σ' Γ1 ∧ Gr B2 B' ∧ H' x = some (.ins 662 dx fs5) ∧ H' p = some (.dT vR) ∧ H' n = some (.dT vN) ∧ DicV B' vR (rulesE one (rows.take i)) ∧ DicV B' vN (notedE (rows.take i)) ∧ B' x = none ∧ B' p = none ∧ B' n = none) ?_ ?_ ?_ ?_⟩⟩
  · refine ⟨B2, _, _, S5, g5, .rfl, hx5, hp5, hn5, ?_, .nil, n2x, B2p, B2n⟩
    exact .cons ⟨rfl, Ab.of (show SlR B2 B2 y2 (dS (ruleS one)) by rw [ey]; exact RpK.str _)⟩ .nil
  · rintro i σ' H' _ ⟨B', vR, vN, S, g, e, _⟩
    exact g.ex _ _ (e _ _ hak')
  · rintro i p' qa σ' H' hi hq ⟨B', vR, vN, S, g, e, h1, h2, h3, h4, h5, h6, h7, h8⟩
    obtain ⟨rw_, hri, hkey⟩ := rowAt e hi
    rw [hkey] at hq
    have hm := List.mem_of_getElem? hri
    obtain ⟨B3, st3, rq⟩ := tup_in g.ex hq
    have g3 := (g.step st3).set0 (i := 5) (s := .d (encN rw_.num)) rq rfl
    have n3x := st3.fr x _ h6 h1 trivial
    have n3p := st3.fr p _ h7 h2 trivial
    have n3n := st3.fr n _ h8 h3 trivial
    have no5 : NoOwn (Γ1.set 5 (some (.d (encN rw_.num)))) := no1.set rfl
    have hnot : ∀ F : Rw → Pv, hasK rw_.num ((rows.take i).map fun r => (r.num, F r)) = false := fun F => by
      rw [hasK_iff, List.map_map]
      exact decide_eq_false (take_not hri hok.nod)
    have hil : i < rows.length := (List.getElem?_eq_some_iff.mp hri).1
    have hrle := hok.le
    have htl : (rows.take i).length ≤ i := List.length_take_le i rows
    try dsimp only
    refine raw_seq (σ := σ'.set 5 (some (.ref qa))) ?_
    have hrow : ∀ Γ : Cxt, Γ[4]? = some (some (.ab (DicF (rowsE rows)))) → Γ[5]? = some (some (.d (encN rw_.num))) → EvS (tDGet (tVar 4) (tVar 5)) Γ (.d rw_.enc) := fun Γ e4 e5 =>
      ev_dgetR (kvs := rowsE rows) (s := .d rw_.enc) (ev_var e4) (fun _ _ h => DicF.rd h) (ev_var e5) (fnd_map (fnd_of hm hok.nod) fun r => slP (.d r.enc)) fun B w h => slP_ab (s := .d rw_.enc) rfl h
    refine raw_put (c_Tree T) (n_Tree_noted T) g3 no5 (k := rw_.num) (kvs := notedE (rows.take i)) (s := .ab (NtP rw_.note)) (φ := φx) (by rw [hΓ1]; rfl) ix (by rw [hΓ1]; rfl) h1 (by rw [hfs5]; rfl) h3 (DicV.mono st3.bb h5) n3n (hnot _) (by simp only [notedE, List.length_map]; omega) (ev_call (ea_cons (row_note (hrow _ (by rw [hΓ1]; rfl) (by rw [hΓ1]; rfl))) ea_nil) ⟨rw_.note, .pl, rfl, hok.dep rw_ hm, hok.ok rw_ hm, rfl⟩) rfl fun B4 H6 vs2 st4 g4 hd4 n4n => ?_
    have x6 : (upd H6 n (.dT vs2)) x = some (.ins 662 dx fs5) := by rw [upd_ne (Ne.symm nnx)]; exact st4.hh _ _ h1
    have p6 : (upd H6 n (.dT vs2)) p = some (.dT vR) := by rw [upd_ne (Ne.symm nnp)]; exact st4.hh _ _ h2
    have n4x := st4.fr x _ n3x h1 trivial
    have n4p := st4.fr p _ n3p h2 trivial
    refine raw_put (c_Tree T) (n_Tree_rules T) g4 no5 (k := rw_.num) (kvs := rulesE one (rows.take i)) (s := dS (ruleS rw_.one)) (φ := φx) (by rw [hΓ1]; rfl) ix (by rw [hΓ1]; rfl) x6 (by rw [hfs5]; rfl) p6 (DicV.mono (st3.bb.trans st4.bb) h4) n4p ?_ (by simp only [rulesE, List.length_cons, List.length_map]; omega) (row_one (hrow _ (by rw [hΓ1]; rfl) (by rw [hΓ1]; rfl))) rfl fun B5 H7 vs3 st5 g5 hd5 n5p => ?_
    · have := hnot fun r => slS (ruleS r.one)
      rw [hasK_iff] at this ⊢
      unfold rulesE
      rw [List.map_cons]
      refine decide_eq_false fun hmem => ?_
      rcases List.mem_cons.mp hmem with hz | hz
      · exact hok.ne rw_ hm hz
      · exact (of_decide_eq_false this) hz
    have hn7 := st5.hh _ _ (upd_same (H := H6) (a := n) (o := .dT vs2))
    have n5n := st5.fr n _ n4n upd_same trivial
    have n5x := st5.fr x _ n4x x6 trivial
    refine ⟨B5, vs3, vs2, ?_, ?_, ((e.trans st3.bb).trans st4.bb).trans st5.bb, ?_, upd_same, ?_, ?_, ?_, n5x, n5p, n5n⟩
    · exact ((((S.trans st3).trans st4).upd' hcn' n4n).trans st5).upd' hcp n5p
    · refine g5.sub ⟨by rw [List.length_set], fun j t ej => ?_⟩
      rw [hΓ1] at ej ⊢
      by_cases hj : j = 5
      · subst hj; simp at ej
      · rw [List.getElem?_set_ne (fun z => hj z.symm)]; exact ej
    · rw [upd_ne nxp]; exact st5.hh _ _ x6
    · rw [upd_ne nnp]; exact hn7
    · rw [rows_snoc hri]
      unfold rulesE at hd5 ⊢
      rw [List.map_append]
      exact hd5
    · rw [rows_snoc hri]
      unfold notedE at hd4 ⊢
      rw [List.map_append]
      exact DicV.mono st5.bb hd4
  rintro σ' H' ⟨B', vR, vN, S, g, e, h1, h2, h3, h4, h5, h6, h7, h8⟩
  rw [hwl, List.take_length] at h4 h5
  -- noted is locked for good
  refine ⟨n, _, h3, trivial, fun od => ?_⟩
  obtain ⟨H6, hH6⟩ : ∃ H6, H6 = upd H' n (.frz od (.dT vN)) := ⟨_, rfl⟩
  rw [← hH6]
  have hx6 : H6 x = some (.ins 662 dx fs5) := by rw [hH6, upd_ne (Ne.symm nnx)]; exact h1
  have hp6 : H6 p = some (.dT vR) := by rw [hH6, upd_ne (Ne.symm nnp)]; exact h2
  have hn6 : H6 n = some (.frz od (.dT vN)) := by rw [hH6]; exact upd_same
  have S6 : Step B0 Hc B' H6 := by rw [hH6]; exact S.upd' hcn' h8
  have g6 : GR B' H6 σ' Γ1 := g.to no1 .rfl S6.bh
  -- self.counted
  try dsimp only
  refine raw_seq ?_
  refine fun c hc => ?_
  have ncx : c ≠ x := by rintro rfl; rw [hx6] at hc; cases hc
  have ncp : c ≠ p := by rintro rfl; rw [hp6] at hc; cases hc
  have ncn : c ≠ n := by rintro rfl; rw [hn6] at hc; cases hc
  have B'c : B' c = none := S6.bh.free hc
  have hcc : Hc c = none := up S6 c hc
  obtain ⟨H7, hH7⟩ : ∃ H7, H7 = upd H6 c (.dT []) := ⟨_, rfl⟩
  have S7 : Step B0 Hc B' H7 := by rw [hH7]; exact S6.upd' hcc B'c
  have g7 : GR B' H7 σ' Γ1 := g6.to no1 .rfl S7.bh
  have hx7 : H7 x = some (.ins 662 dx fs5) := by rw [hH7, upd_ne (Ne.symm ncx)]; exact hx6
  rw [← hH7]
  refine ⟨.ref x, self_at g7 (by rw [hΓ1]; rfl) ix, x, 662, dx, fs5, rfl, hx7, c_Tree T, n_Tree_counted T, (by rw [hfs5]; show 3 < 1000; decide), ?_⟩
  have e8 : putF "counted" (V.ref c) fs5 = ([("order", v1), ("rules", .ref p), ("noted", .ref n), ("counted", .ref c)] : List (Str × V)) := by rw [hfs5]; rfl
  rw [e8]
  obtain ⟨fs8, hfs8⟩ : ∃ fs : List (Str × V), fs = ([("order", v1), ("rules", .ref p), ("noted", .ref n), ("counted", .ref c)] : List (Str × V)) := ⟨_, rfl⟩
  rw [← hfs8]
  obtain ⟨H8, hH8⟩ : ∃ H8, H8 = upd H7 x (.ins 662 dx fs8) := ⟨_, rfl⟩
  have hx8 : H8 x = some (.ins 662 dx fs8) := by rw [hH8]; exact upd_same
  have hp8 : H8 p = some (.dT vR) := by rw [hH8, upd_ne (Ne.symm nxp), hH7, upd_ne (Ne.symm ncp)]; exact hp6
  have hn8 : H8 n = some (.frz od (.dT vN)) := by rw [hH8, upd_ne nnx, hH7, upd_ne (Ne.symm ncn)]; exact hn6
  have hc8 : H8 c = some (.dT []) := by rw [hH8, upd_ne ncx, hH7]; exact upd_same
  have S8 : Step B0 Hc B' H8 := by rw [hH8]; exact S7.upd' hcx h6
  rw [← hH8]
  -- all but counted comes into the view
  obtain ⟨B8, hB8⟩ : ∃ B8, B8 = upd (upd (upd B' n (.frz od (.dT vN))) p (.dT vR)) x (.ins 662 dx fs8) := ⟨_, rfl⟩
  have S9 : Step B0 Hc B8 H8 := by
    rw [hB8]
    exact ((S8.add' hcn' h8 hn8).add' hcp (by rw [upd_ne (Ne.symm nnp)]; exact h7) hp8).add' hcx (by rw [upd_ne nxp, upd_ne (Ne.symm nnx)]; exact h6) hx8
  have gB8 : Gr B' B8 := by
    rw [hB8]
    exact ((Gr.new h8).trans (Gr.new (by rw [upd_ne (Ne.symm nnp)]; exact h7))).trans (Gr.new (by rw [upd_ne nxp, upd_ne (Ne.symm nnx)]; exact h6))
  have B8c : B8 c = none := by rw [hB8, upd_ne ncx, upd_ne ncp, upd_ne ncn]; exact B'c
  have B8x : B8 x = some (.ins 662 dx fs8) := by rw [hB8]; exact upd_same
  have B8p : B8 p = some (.dT vR) := by rw [hB8, upd_ne (Ne.symm nxp)]; exact upd_same
  have B8n : B8 n = some (.frz od (.dT vN)) := by rw [hB8, upd_ne nnx, upd_ne nnp]; exact upd_same
  have g8 : GR B8 H8 σ' Γ1 := g6.to no1 gB8 S9.bh
  have r1' : Rp B8 v1 (.list (ksL ks)) := RpK.mono ((st2.bb.trans e).trans gB8) r1
  have t1 : Tree1 ks rows x dx v1 (.ref p) (.ref n) (.ref c) B8 (.ref x) := ⟨rfl, by rw [B8x, hfs8], r1', n, od, vN, rfl, B8n, DicV.mono gB8 h5⟩
  obtain ⟨φt, hφt⟩ : ∃ φ : Pv, φ = Tree1 ks rows x dx v1 (.ref p) (.ref n) (.ref c) := ⟨_, rfl⟩
  have ixt : IsX φt x := fun B v h => by obtain ⟨_, _, h⟩ := h; rw [hφt] at h; exact h.1
  have it0 : ∀ B v, φt B v → Tree0 ks rows B v := fun B v h => by rw [hφt] at h; exact ⟨x, dx, v1, _, _, _, h⟩
  obtain ⟨Γ2, hΓ2⟩ : ∃ Γ : Cxt, Γ = [some (.ab φt), some (dL (ksL ks)), some (dS (ruleS one)), some (dL (rwL rows)), some (.ab (DicF (rowsE rows))), none, none, none] := ⟨_, rfl⟩
  have g9 : GR B8 H8 σ' Γ2 := by
    refine ⟨g8.ex, by rw [hΓ2]; have := g8.len; rw [hΓ1] at this; exact this, fun i s hs => ?_, fun i j s t _ e1 _ o1 _ => ?_⟩
    · rcases i with _ | i
      · rw [hΓ2] at hs
        have hs' : Sl.ab φt = s := by simpa using hs
        subst hs'
        exact ⟨.ref x, self_at g8 (by rw [hΓ1]; rfl) ix, Ab.of (by rw [hφt]; exact t1)⟩
      · refine g8.at_ (i + 1) s ?_
        rw [hΓ2] at hs
        rw [hΓ1]
        simpa using hs
    · exfalso
      rw [hΓ2] at e1
      rcases i with _ | _ | _ | _ | _ | _ | _ | _ | i <;> simp at e1 <;> subst e1 <;> cases o1
  have no2 : NoOwn Γ2 := by
    intro i s e
    rw [hΓ2] at e
    rcases i with _ | _ | _ | _ | _ | _ | _ | _ | i <;> simp at e <;> subst e <;> rfl
  -- looks
  try dsimp only
  refine raw_seq (raw_asg (Γ := Γ2) (s := .d (.list (nL (allLooks ks.length))) .fz) ?_ g9 fun vl B9 H9 st9 r9 _ => ?_)
  · rw [hΓ2]; exact ev_fz (ev_call (ea_cons ((ev_lenL (ds := ksL ks) (ev_fld (ev_abI (ev_var rfl) it0) (c_Tree T) (n_Tree_order T) (fl_order ks rows))).is (by rw [ksL_len])) ea_nil) ⟨ks.length, rfl, hk.pos, hk.le, rfl⟩)
  have S10 := S9.trans st9
  have hc9 := st9.hh _ _ hc8
  have B9c := st9.fr c _ B8c hc8 trivial
  obtain ⟨Γ3, hΓ3⟩ : ∃ Γ : Cxt, Γ = [some (.ab φt), some (dL (ksL ks)), some (dS (ruleS one)), some (dL (rwL rows)), some (.ab (DicF (rowsE rows))), none, some (.d (.list (nL (allLooks ks.length))) .fz), none] := ⟨_, rfl⟩
  have g10 : GR B9 H9 (σ'.set 6 (some vl)) Γ3 := by
    have := (g9.step st9).set0 (i := 6) (s := .d (.list (nL (allLooks ks.length))) .fz) r9 rfl
    rw [hΓ2] at this
    rw [hΓ3]
    exact this
  have no3 : NoOwn Γ3 := by
    intro i s e
    rw [hΓ3] at e
    rcases i with _ | _ | _ | _ | _ | _ | _ | _ | i <;> simp at e <;> subst e <;> rfl
  obtain ⟨σ2, hσ2⟩ : ∃ σ, σ = σ'.set 6 (some vl) := ⟨_, rfl⟩
  try dsimp only
  rw [← hσ2] at g10 ⊢
  obtain ⟨vk2, ek2, rk2⟩ := g10.at_ 4 (.ab (DicF (rowsE rows))) (by rw [hΓ3]; rfl)
  obtain ⟨Bm, eBm, am, om, wm, evm, ham, hdm⟩ := rk2
  subst evm
  have ham' : B9 am = some (.frz om (.dT wm)) := eBm _ _ ham
  have hdm' := DicV.mono eBm hdm
  have hwlm : wm.length = rows.length := by rw [hdm.len]; simp [rowsE]
  refine ⟨.ref am, ek2, am, om, rfl, .inr ⟨wm, g10.ex _ _ ham', for_keysT (fun i σ' H' => ∃ B' vC, Step B0 Hc B' H' ∧ GR B' H' σ' Γ3 ∧ Gr B9 B' ∧ H' c = some (.dT vC) ∧ DicV B' vC (countE ks (rows.take i)) ∧ B' c = none) ?_ ?_ ?_ ?_⟩⟩
  · exact ⟨B9, _, S10, g10, .rfl, hc9, .nil, B9c⟩
  · rintro i σ' H' _ ⟨B', vC, S, g, e, _⟩
    exact g.ex _ _ (e _ _ ham')
  · rintro i p' qa σ' H' hi hq ⟨B', vC, S, g, e, h1, h4, h6⟩
    obtain ⟨rw_, hri, hkey⟩ : ∃ r, rows[i]? = some r ∧ p'.1 = r.num.map Sum.inl := by
      obtain ⟨e', he, hkk, _⟩ := hdm'.get hi
      unfold rowsE at he
      rw [List.getElem?_map] at he
      cases q : rows[i]? with
      | none => rw [q] at he; cases he
      | some r => rw [q] at he; cases he; exact ⟨r, rfl, hkk⟩
    rw [hkey] at hq
    have hm := List.mem_of_getElem? hri
    obtain ⟨B3, st3, rq⟩ := tup_in g.ex hq
    have g3 := (g.step st3).set0 (i := 5) (s := .d (encN rw_.num)) rq rfl
    have n3c := st3.fr c _ h6 h1 trivial
    have no5 : NoOwn (Γ3.set 5 (some (.d (encN rw_.num)))) := no3.set rfl
    have hnot : hasK rw_.num (countE ks (rows.take i)) = false := by
      unfold countE
      rw [hasK_iff, List.map_map]
      exact decide_eq_false (take_not hri hok.nod)
    have hil : i < rows.length := (List.getElem?_eq_some_iff.mp hri).1
    have hrle := hok.le
    have htl : (rows.take i).length ≤ i := List.length_take_le i rows
    show sDPut _ _ _ _ (σ'.set 5 (some (.ref qa))) H'
    have hxx : H' x = some (.ins 662 dx fs8) := g.ex _ _ (e _ _ (st9.bb _ _ B8x))
    refine raw_put (c_Tree T) (n_Tree_counted T) g3 no5 (k := rw_.num) (kvs := countE ks (rows.take i)) (s := dI (cntN ks rw_.note)) (φ := φt) (by rw [hΓ3]; rfl) ixt (by rw [hΓ3]; rfl) hxx (by rw [hfs8]; rfl) h1 (DicV.mono st3.bb h4) n3c hnot (by simp only [countE, List.length_map]; omega) ?_ rfl fun B4 H6 vs2 st4 g4 hd4 n4c => ?_
    · have hsz := allLooks_size hk.le
      refine (ev_lenL (κ := .fz) (ds := (nL (allLooks ks.length)).filter fun d => rw_.note.cl ks (unN d)) ((ev_fz (ev_lcL (κ := .fz) (κ' := .fz) (ds := nL (allLooks ks.length)) (fun d => rw_.note.cl ks (unN d)) id (ev_var (by rw [hΓ3]; rfl)) (List.mem_cons_self ..) (by rw [nL_len]; omega) (fun d hd => ?_) (fun d hd _ => ?_))).is (by rw [List.map_id]))).is ?_
      · obtain ⟨l, hl, rfl⟩ := List.mem_map.mp hd
        rw [unN_N]
        exact et_B (ev_meth (ev_abI (ev_var (by rw [hΓ3]; rfl)) it0) (rc_tree ks rows "claims") (ea_cons (ev_var (by rw [hΓ3]; rfl)) (ea_cons (ev_var (s := .d (encN l) .fz) (by rw [hΓ3]; rfl)) ea_nil)) ⟨.fz, ks, rows, rw_.num, rw_, l, rfl, hk, hok, fnd_of hm hok.nod, allLooks_len hl, rfl⟩)
      · exact ev_var (by rw [hΓ3]; rfl)
      · congr 2
        unfold nL
        rw [List.filter_map, List.length_map]
        congr 2
        funext l
        simp only [Function.comp, unN_N]
    · refine ⟨B4, vs2, ((S.trans st3).trans st4).upd' hcc n4c, ?_, (e.trans st3.bb).trans st4.bb, upd_same, ?_, n4c⟩
      · refine g4.sub ⟨by rw [List.length_set], fun j t ej => ?_⟩
        rw [hΓ3] at ej ⊢
        by_cases hj : j = 5
        · subst hj; simp at ej
        · rw [List.getElem?_set_ne (fun z => hj z.symm)]; exact ej
      · rw [rows_snoc hri]
        unfold countE at hd4 ⊢
        rw [List.map_append]
        exact hd4
  · rintro σ' H' ⟨B', vC, S, g, e, h1, h4, h6⟩
    rw [hwlm, List.take_length] at h4
    have gE := (st9.bb.trans e)
    rw [hHc] at S hcc
    refine q (upd B' c (.dT vC)) H' (S.add' hcc h6 h1) ⟨x, dx, v1, .ref p, .ref n, .ref c, ?_, ?_, ?_⟩
    · have gg := gE.trans (Gr.new (o := .dT vC) h6)
      exact ⟨rfl, by rw [gg _ _ B8x, hfs8], RpK.mono gg r1', n, od, vN, rfl, gg _ _ B8n, DicV.mono (gB8.trans gg) h5⟩
    · have gg := gE.trans (Gr.new (o := .dT vC) h6)
      exact ⟨p, vR, rfl, gg _ _ B8p, DicV.mono (gB8.trans gg) ‹DicV _ vR (rulesE one rows)›⟩
    · exact ⟨c, vC, rfl, upd_same, DicV.mono (Gr.new h6) h4⟩
end TG
set_option Elab.async false
set_option linter.all false
set_option maxRecDepth 100000
set_option maxHeartbeats 4000000
/-! FX: own exceptions with fields, raised. -/
namespace TG
open PySem PySem.Spec PyProof.Rows L2
section
variable {X : Cx} {e : Expr} {es : List Expr} {ta : TA} {p1 p2 pos : Pos}
theorem pe_tarinit {pl : Sem Bool} (hf : fTar X.K 31 = true) (hg : Gl X "TariffError") (hm : X.mg "TariffError" = some (.ref 31)) (ha : PA X (e :: es) ta)
    (hc : eval (.Call (.Attribute (.Name "TariffError" p1) "__init__" p2) (e :: es) [] pos) X.env = (do
      let ov ← eval (.Name "TariffError" p1) X.env
      standAt p2.atName
      let (f, first) ← holding [ov] (getMethod ov "__init__" pl)
      callWith pos f first (backTo pos (starEach (e :: es) X.env)) (backToKw pos (keywordEach [] X.env))) := by rfl)
    (he : starEach (e :: es) X.env = (false, eval e X.env) :: starEach es X.env := by rfl) (hpl : (backTo pos (starEach es X.env)).any (·.1) = false := by rfl) :
    PE X (.Call (.Attribute (.Name "TariffError" p1) "__init__" p2) (e :: es) [] pos) (tVeI X.K ta) := by
  obtain ⟨h1, h2⟩ := b2 hf
  obtain ⟨h3, h4⟩ := b2 h1
  have hsp := ok_eqo h3
  have hfc : PySem.W.findCls X.K (.ref 31) (.type "type") "__init__" = some (.val (.builtin "ValueError.__init__")) := by
    cases q : PySem.W.findCls X.K (.ref 31) (.type "type") "__init__" with
    | none => rw [q] at h2; cases h2
    | some r =>
      rw [q] at h2
      cases r with
      | val v =>
        cases v <;> first | (cases h2; done) | skip
        rw [beq_iff_eq.mp h2]
      | _ => cases h2
  refine ⟨fun pins s σ H Q I h => ?_⟩
  refine PySem.W.methodCall_KW (ld_glob I hg hm ?_ (by decide)) hc
  refine PySem.W.method_cls I.kIn hsp (PySem.W.cls_value I.kIn h4 hfc (by decide +kernel) ?_)
  show wpAny _ _ (callWith pos (Value.builtin "ValueError.__init__") [] (backTo pos (starEach (e :: es) X.env)) []) _ _ _
  refine PyProof.Rows.callWith_method1 (thn (ha.run pos pins _ σ H _ (I.tok _) h) fun us s1 ⟨vs, H1, I1, r1, a, C, ws, ev, hl, T, ea, q⟩ => ?_) he hpl
  subst ev
  cases r1 with
  | @cons _ u0 _ ur ra rw' =>
    obtain rfl : u0 = Value.ref a := ra
    have hlen : ur.length ≤ sizeLine := by
      rw [← Paired.length rw', sizeLine_eq]
      omega
    exact oinit_ok T I1 ea hlen fun s' J => ⟨.non, H1, J, rfl, q⟩
end
section
variable {K : KF} {C a : Addr}
theorem arr6 {α : Type} {s : Array α} {a b c d e f : α} (h : s.toList = [a, b, c, d, e, f]) : s = #[a, b, c, d, e, f] := by
  apply Array.toList_inj.mp
  rw [h]
theorem oex_of (h : oexB K C = true) : ∃ nm q N bs bm sn sub ab col dd k0 k1 k2 k3 k5, K.lookup C = some (excClassObj nm q C N bs bm true sn sub ab col dd k0 k1 k2 k3 k5 "ValueError.__new__") ∧ PySem.HandSPX.refsVE bm = true := by
  unfold oexB at h
  split at h
  · next dd cd sl hk =>
    split at h
    · next D bm k0 k1 k2 k3 n k5 hm hs =>
      obtain ⟨h1, h2⟩ := b2 h
      obtain ⟨h3, h4⟩ := b2 h1
      obtain ⟨h5, h6⟩ := b2 h2
      obtain ⟨h7, h8⟩ := b2 h5
      have e1 : D = C := by simpa using h3
      have e2 : n = "ValueError.__new__" := by simpa using h4
      obtain ⟨nm, bs, mro, ns, qn, hd, sn, sb, ab, col, hdel⟩ := cd
      dsimp only at hm h7 h8
      subst hm h8 e1 e2
      have e3 : hdel = false := by simpa using h7
      subst e3
      refine ⟨nm, qn, ns, bs, bm, sn, sb, ab, col, dd, k0, k1, k2, k3, k5, ?_, h6⟩
      rw [hk, arr6 hs]
    · cases h
  · cases h
structure OexF (K : KF) (C a : Addr) : Prop where
  cls : OexC K C
  ini : PySem.W.findIn K (.ref C) "__init__" = some (some (.ref a))
  fn : PySem.W.typeIn K (.ref a) = some (.type "function")
  hd : PySem.W.hasDictIn K C = true
  ga : PySem.W.findIn K (.ref C) "__getattribute__" = some (some (.builtin "BaseException.__getattribute__"))
  gt : PySem.W.findIn K (.ref C) "__getattr__" = some none
theorem oexF (h : fOex K C a = true) : OexF K C a := by
  obtain ⟨h1, h2⟩ := b2 h
  obtain ⟨h3, h4⟩ := b2 h1
  obtain ⟨h5, h6⟩ := b2 h3
  obtain ⟨h7, h8⟩ := b2 h4
  obtain ⟨h9, h10⟩ := b2 h2
  obtain ⟨h11, h12⟩ := b2 h9
  obtain ⟨h13, h14⟩ := b2 h10
  obtain ⟨h15, h16⟩ := b2 h13
  obtain ⟨h17, h18⟩ := b2 h14
  exact ⟨⟨oex_of h5, ok_eqo h6, of_decide_eq_true h7, of_decide_eq_true h8, h11⟩, ok_eqo h12, of_decide_eq_true h15, h16, ok_eqo h17, ok_eqo h18⟩
end
/-- __init__ of an own exception: the parameters are stored by these names -/
def spX (C : Addr) (names : List Str) : Sp := fun vs H Q E => ∃ (a : Addr) (ws : List V), vs = .ref a :: ws ∧ ws.length = names.length ∧ H a = some (exo a C none) ∧
  ∀ (dx : Addr) (H' : Hp), H dx = none → dx ≠ a → H' a = some (exo a C (some dx)) → H' dx = some (exd dx (names.zip ws).reverse) → (∀ b, b ≠ a → b ≠ dx → H' b = H b) → Q .non H'
section
variable {P : Program} {w : World} {K : KF} {mg : Str → Option Value} {base : Heap}
theorem ok_NoneClaimsinit (T : Txt K mg) : FnOk P w K mg base CX0 1 96 (fdOf K 96) ["self", "parcel", "at"] (spX 99 ["parcel", "at"]) := by
  have O := oexF (o_NoneClaims T)
  refine (f_NoneClaimsinit T).ok sc_NoneClaimsinit (fun vs H Q E ⟨a, ws, e, l, _⟩ => by rw [e, List.length_cons, l]; rfl) (fun cdv A outer h H vs Q E hr ⟨a, ws, e, l, ha, q⟩ => ?_)
  refine ⟨_, (pss_cons (ps_expr (pe_tarinit (pl := _) (o_TariffError T) rfl (g_TariffError T) (pa_cons (pv 0) (pa_cons pe_str pa_nil))))
      (pss_cons (ps_ost (pv 0) (pv 1))
      (pss_one (ps_ost (pv 0) (pv 2))))), ?_⟩
  obtain ⟨v1, v2, rfl⟩ : ∃ v1 v2, ws = [v1, v2] := by
    match ws, l with
    | [v1, v2], _ => exact ⟨v1, v2, rfl⟩
  subst e
  have e0 : (L2.start N_NoneClaimsinit [V.ref a, v1, v2])[0]? = some (some (V.ref a)) := rfl
  have e1 : (L2.start N_NoneClaimsinit [V.ref a, v1, v2])[1]? = some (some v1) := rfl
  have e2 : (L2.start N_NoneClaimsinit [V.ref a, v1, v2])[2]? = some (some v2) := rfl
  refine ⟨.ref a, e0, a, 99, [V.str "none claims a parcel"], rfl, (by show 1 ≤ 1000; decide), O.cls, ha, ?_⟩
  refine ⟨v1, e1, .ref a, e0, a, 99, rfl, O.cls, n_NoneClaims_parcel T, .inl ⟨ha, fun dx hd hne => ?_⟩⟩
  refine ⟨v2, e2, .ref a, e0, a, 99, rfl, O.cls, n_NoneClaims_at T, .inr ⟨dx, [("parcel", v1)], upd_same, (by rw [upd_ne hne]; exact upd_same), (by show 1 ≤ 900; decide), ?_⟩⟩
  have HA1 : (upd (upd H dx (exd dx [("parcel", v1)])) a (exo a 99 (some dx))) a = some (exo a 99 (some dx)) := upd_same
  refine q dx _ hd hne ?_ ?_ fun b hb hbd => ?_
  · rw [upd_ne hne.symm]; exact HA1
  · exact upd_same
  · rw [upd_ne hbd, upd_ne hb, upd_ne hbd]
theorem ok_TwoClaiminit (T : Txt K mg) : FnOk P w K mg base CX0 1 115 (fdOf K 115) ["self", "parcel", "at", "one", "other"] (spX 118 ["parcel", "at", "one", "other"]) := by
  have O := oexF (o_TwoClaim T)
  refine (f_TwoClaiminit T).ok sc_TwoClaiminit (fun vs H Q E ⟨a, ws, e, l, _⟩ => by rw [e, List.length_cons, l]; rfl) (fun cdv A outer h H vs Q E hr ⟨a, ws, e, l, ha, q⟩ => ?_)
  refine ⟨_, (pss_cons (ps_expr (pe_tarinit (pl := _) (o_TariffError T) rfl (g_TariffError T) (pa_cons (pv 0) (pa_cons pe_str pa_nil))))
      (pss_cons (ps_ost (pv 0) (pv 1))
      (pss_cons (ps_ost (pv 0) (pv 2))
      (pss_cons (ps_ost (pv 0) (pv 3))
      (pss_one (ps_ost (pv 0) (pv 4))))))), ?_⟩
  obtain ⟨v1, v2, v3, v4, rfl⟩ : ∃ v1 v2 v3 v4, ws = [v1, v2, v3, v4] := by
    match ws, l with
    | [v1, v2, v3, v4], _ => exact ⟨v1, v2, v3, v4, rfl⟩
  subst e
  have e0 : (L2.start N_TwoClaiminit [V.ref a, v1, v2, v3, v4])[0]? = some (some (V.ref a)) := rfl
  have e1 : (L2.start N_TwoClaiminit [V.ref a, v1, v2, v3, v4])[1]? = some (some v1) := rfl
  have e2 : (L2.start N_TwoClaiminit [V.ref a, v1, v2, v3, v4])[2]? = some (some v2) := rfl
  have e3 : (L2.start N_TwoClaiminit [V.ref a, v1, v2, v3, v4])[3]? = some (some v3) := rfl
  have e4 : (L2.start N_TwoClaiminit [V.ref a, v1, v2, v3, v4])[4]? = some (some v4) := rfl
  refine ⟨.ref a, e0, a, 118, [V.str "two claim a parcel"], rfl, (by show 1 ≤ 1000; decide), O.cls, ha, ?_⟩
  refine ⟨v1, e1, .ref a, e0, a, 118, rfl, O.cls, n_TwoClaim_parcel T, .inl ⟨ha, fun dx hd hne => ?_⟩⟩
  refine ⟨v2, e2, .ref a, e0, a, 118, rfl, O.cls, n_TwoClaim_at T, .inr ⟨dx, [("parcel", v1)], upd_same, (by rw [upd_ne hne]; exact upd_same), (by show 1 ≤ 900; decide), ?_⟩⟩
  have HA1 : (upd (upd H dx (exd dx [("parcel", v1)])) a (exo a 118 (some dx))) a = some (exo a 118 (some dx)) := upd_same
  refine ⟨v3, e3, .ref a, e0, a, 118, rfl, O.cls, n_TwoClaim_one T, .inr ⟨dx, [("at", v2), ("parcel", v1)], (by rw [upd_ne hne.symm]; exact HA1), upd_same, (by show 2 ≤ 900; decide), ?_⟩⟩
  have HA2 : (upd (upd (upd H dx (exd dx [("parcel", v1)])) a (exo a 118 (some dx))) dx (exd dx [("at", v2), ("parcel", v1)])) a = some (exo a 118 (some dx)) := by rw [upd_ne hne.symm]; exact HA1
  refine ⟨v4, e4, .ref a, e0, a, 118, rfl, O.cls, n_TwoClaim_other T, .inr ⟨dx, [("one", v3), ("at", v2), ("parcel", v1)], (by rw [upd_ne hne.symm]; exact HA2), upd_same, (by show 3 ≤ 900; decide), ?_⟩⟩
  have HA3 : (upd (upd (upd (upd H dx (exd dx [("parcel", v1)])) a (exo a 118 (some dx))) dx (exd dx [("at", v2), ("parcel", v1)])) dx (exd dx [("one", v3), ("at", v2), ("parcel", v1)])) a = some (exo a 118 (some dx)) := by rw [upd_ne hne.symm]; exact HA2
  refine q dx _ hd hne ?_ ?_ fun b hb hbd => ?_
  · rw [upd_ne hne.symm]; exact HA3
  · exact upd_same
  · rw [upd_ne hbd]; rw [upd_ne hbd]; rw [upd_ne hbd, upd_ne hb, upd_ne hbd]
end
section
variable {K : KF} {Γ : Cxt} {te : TE} {ta tr : TA} {B0 H0 : Hp} {E : DE} {s : Sl}
theorem del_upd {H1 H2 : Hp} {a d : Addr} {o : HO} (hn : H1 a = none) (hd : d ≠ a) (h : ∀ b, b ≠ a → b ≠ d → H2 b = H1 b) : upd (del H2 a) d o = upd H1 d o := by
  funext b
  by_cases hb : b = d
  · subst hb; rw [upd_same, upd_same]
  · rw [upd_ne hb, upd_ne hb]
    by_cases ha : b = a
    · subst ha; rw [del_same, hn]
    · rw [del_ne ha, h b ha hb]
theorem zip_pair {B H H0 : Hp} : ∀ {names : List Str} {vs : List V} {ss : List Sl}, Paired (fun v s => SlR B H v s ∧ Frs H0 v s) vs ss → Paired (fun (p : Str × V) (q : Str × Sl) => p.1 = q.1 ∧ SlR B H p.2 q.2 ∧ Frs H0 p.2 q.2) (names.zip vs) (names.zip ss)
  | [], _, _, _ => by simp; exact .nil
  | _ :: _, [], _, h => by cases h; simp; exact .nil
  | n :: ns, v :: vs, _, h => by
    cases h with
    | cons a r => exact .cons ⟨rfl, a.1, a.2⟩ (zip_pair r)
theorem paired_rev {α β : Type} {R : α → β → Prop} : ∀ {l : List α} {m : List β}, Paired R l m → Paired R l.reverse m.reverse := by
  intro l m h
  induction h with
  | nil => exact .nil
  | cons r _ ih =>
    rw [List.reverse_cons, List.reverse_cons]
    have app : ∀ {l : List α} {m : List β} {a : α} {b : β}, Paired R l m → R a b → Paired R (l ++ [a]) (m ++ [b]) := by
      intro l m a b h r
      induction h with
      | nil => exact .cons r .nil
      | cons r' _ ih => exact .cons r' ih
    exact app ih r
theorem wx_raiseX {W : XK} {C : Addr} {names : List Str} {ss : List Sl} (h : EvS te Γ s) (hr : EvA tr Γ ss) (hl : names.length = ss.length + 1) (h1000 : names.length ≤ 1000)
    (k : ∀ cls d B H, Step B0 H0 B H → XcR H0 B H ⟨C, some (names.zip (s :: ss)).reverse⟩ cls d → W cls d H) : WS B0 H0 (fun _ σ H => tMkO C (spX C names) [] (tCons te tr) σ H fun cls d H' => W cls d H') Γ E := fun B H σ D g _ _ _ _ =>
  h B H σ _ g.g fun v B1 H1 st1 r1 f1 => hr B1 H1 σ _ (g.g.step st1) fun vs B2 H2 st2 r2 => by
    have hlen : (v :: vs).length = names.length := by rw [List.length_cons, r2.len, hl]
    refine ⟨by rw [hlen]; exact h1000, fun a ha => ⟨a, v :: vs, by rw [List.append_nil], hlen, upd_same, fun dx H' hd hne e1 e2 e3 => ⟨rfl, dx, _, e1, e2, ?_, ?_⟩⟩⟩
    · rw [upd_ne hne] at hd; exact hd
    · rw [upd_ne hne] at hd
      rw [del_upd ha hne fun b hb hbd => by rw [e3 b hb hbd, upd_ne hb]]
      have st := g.st.trans (st1.trans st2)
      have st3 := Step.newH (o := HO.xd (names.zip (v :: vs)).reverse) st2.bh hd
      have hB2d : B2 dx = none := st2.bh.free hd
      refine k _ _ B2 _ (st.trans st3) ⟨rfl, dx, _, rfl, upd_same, hB2d, paired_rev (zip_pair (.cons ⟨(r1.step st2).step st3, fun o => ?_⟩ ?_))⟩
      · obtain ⟨b, e, hn⟩ := f1 o
        exact ⟨b, e, g.st.hh.free hn⟩
      · exact Paired.mapP r2 fun v s p => ⟨p.1.step st3, .no p.2⟩
end
end TG
set_option Elab.async false
set_option linter.all false
set_option maxRecDepth 100000
set_option maxHeartbeats 4000000
/-! W11: goods folded; the ladder. -/
namespace TG
open PySem PySem.Spec PyProof.Rows L2
variable {P : Program} {w : World} {K : KF} {mg : Str → Option Value} {base : Heap}
section
variable {Γ : Cxt} {ta : TA} {E : XK}
theorem SlA.grow {B H B' H' : Hp} (e : Gr B B') : ∀ {vs : List V} {ss : List Sl}, SlA B H vs ss → SlA B' H' vs ss
  | _, _, .nil => .nil
  | _, _, .cons h r => .cons ⟨h.1.grow h.2 e, h.2⟩ (SlA.grow e r)
theorem ev_makeT {ks : List Knd} {one : Bool} {rows : List Rw} (h : EvA ta Γ [dL (ksL ks), dS (ruleS one), dL (rwL rows)]) (hk : KsOk ks) (hr : RowsOk rows) : EvS (tMake 662 spTree [] E ta) Γ (.ab (TreeP ks one rows)) := fun B H σ Q g q =>
  h B H σ _ g fun vs B1 H1 st r x dx hx hd ne => by
    have hxB := st.bh.free hx
    have hdB := st.bh.free hd
    refine ⟨B1, x, dx, ks, one, rows, vs, by rw [List.append_nil], gr_upd (gr_upd st.bh hdB) hxB, upd_same, hxB, r.grow .rfl, hk, hr, fun B' H' s t => ⟨rfl, ?_⟩⟩
    have cut : ∀ b o, H1 b = some o → cutA (upd (upd H1 dx (.own x)) x (.ins 662 dx [])) x b = some o := fun b o e => by
      show (if b = x then none else _) = _
      rw [if_neg (ne_of_none e hx), upd_ne (ne_of_none e hx), upd_ne (ne_of_none e hd)]
      exact e
    exact q _ B' H' (st.trans ⟨s.bb, fun b o e => s.hh b o (cut b o e), s.bh, fun b o e1 e2 n => s.fr b o e1 (cut b o e2) n⟩) (Ab.of t) (.no rfl)
end
/-! goods -/
theorem part_ix {κ : TK} {Γ : Cxt} {te : TE} {a b : PyData} {x : PyData} (h : EvS te Γ (.d (.tuple [a, b, x]) κ)) : EvS (tOp (rIxT K) te (tC (.int 2))) Γ (.d x κ) := ev_ixT (ds := [a, b, x]) h ev_int rfl
theorem part_cut {Γ : Cxt} {te : TE} {a b x : PyData} (h : EvS te Γ (.d (.tuple [a, b, x]))) : EvS (tSl (rSlA K) te tNoPart (tPart (tC (.int 2)))) Γ (.d (.tuple [a, b])) := (ev_slT (K := K) (ds := [a, b, x]) h eo_none (eo_some (i := 2) ev_int)).is rfl
theorem idx_k {ks : List Knd} {k : Knd} (h : k ∈ ks) : (ksL ks)[ks.idxOf k]? = some (kD k) := by
  unfold ksL
  rw [List.getElem?_map]
  have h1 := List.idxOf_lt_length_of_mem h
  rw [List.getElem?_eq_getElem h1, List.getElem_idxOf h1]
  rfl
theorem idx_kno {ks : List Knd} {k : Knd} : ∀ (m : Nat) (z : PyData), m < ks.idxOf k → (ksL ks)[m]? = some z → PyData.eqv z (kD k) = false := fun m z hm hz => by
  unfold ksL at hz
  rw [List.getElem?_map] at hz
  cases q : ks[m]? with
  | none => rw [q] at hz; cases hz
  | some v =>
    rw [q] at hz
    cases hz
    rw [eqv_k]
    obtain ⟨hl, e⟩ := List.getElem?_eq_some_iff.mp q
    refine decide_eq_false fun e2 => ?_
    have hb := List.not_of_lt_findIdx (p := (· == k)) (xs := ks) (i := m) hm
    subst e
    simp [e2] at hb
/-- a part that place_of refuses -/
inductive BadPart (ks : List Knd) : PyData → Prop
  | non : BadPart ks .none
  | lst (l : List PyData) : BadPart ks (.list l)
  | two (a b : Str) : BadPart ks (.tuple [.str a, .str b])
  | name {a b : Str} {x : PyData} (ha : a.length ≤ 100000) (hb : b.length ≤ 100000) (h : kndB (a, b) = false) : BadPart ks (.tuple [.str a, .str b, x])
  | kind {a b : Str} {x : PyData} (h : kndB (a, b) = true) (h2 : (a, b) ∉ ks) : BadPart ks (.tuple [.str a, .str b, x])
  | what {k : Knd} {x : PyData} (h : k ∈ ks) (h2 : isWholeD x = false) : BadPart ks (.tuple [.str k.1, .str k.2, x])
  | small {k : Knd} {i : Int} (h : k ∈ ks) (h2 : i < 1) : BadPart ks (.tuple [.str k.1, .str k.2, .int i])
theorem ok_placeof (T : Txt K mg) : FnOk P w K mg base (L2.CX P w) 3 169 (fdOf K 169) ["kinds", "part"] (spD (fun ss s => ∃ (ks : List Knd) (k : Knd) (n : Int), ss = [dL (ksL ks), .d (partD k n)] ∧ (∀ k ∈ ks, kndB k = true) ∧ k ∈ ks ∧ 0 < n ∧ s = dI (ks.idxOf k : Nat))
    (fun ss x => ∃ (ks : List Knd) (d : PyData), ss = [dL (ksL ks), .d d] ∧ (∀ k ∈ ks, kndB k = true) ∧ BadPart ks d ∧ x = ⟨56, none⟩)) := by
  refine Fun.okDX (f_placeof T) sc_placeof (fun ss s ⟨_, _, _, h, _⟩ => by rw [h]; rfl) (fun ss x ⟨_, _, h, _⟩ => by rw [h]; rfl) (fun cdv A outer h H E hr ss s ⟨ks, k, n, hs, hk, hm, hn, hv⟩ => ?_) (fun cdv A outer h H E hr ss x ⟨ks, d, hs, hk, hb, hx⟩ => ?_)
  · have hu65 := hu65_of hr
    subst hs hv
    refine ⟨_, (pss_cons (ps_if (PW.pt (pw_or (pt_not (pt_val (pe_callB call_isi rfl (z_isinstance T) (by decide +kernel) (pa_cons (pv 1) (pa_cons (pe_ty (n := "tuple") rfl (z_tuple T) (by decide +kernel)) pa_nil))))) (pw_or1 (pt_cmpR op_ne (pe_callB call_len rfl (z_len T) PySem.boot_len (pa_cons (pv 1) pa_nil)) pe_int (nomark _))))) (pss_one (ps_raise rfl (takes_of rfl rfl rfl rfl) (pmk_own PySem.F.excBase_ValueError (e_NoGoods T) (g_NoGoods T) (ek_NoGoods T) (raises_own (es_NoGoods T) (et_NoGoods T)) rfl))) pss_nil)
      (pss_cons (ps_if (PW.pt (pw_or (pt_not (pt_val (pe_call (ok_iskind T) (hr.mono (by decide)) rfl (g_iskind T) (f_iskind T).kp (b_iskind T) .nil pass0 (pa_cons (pe_slice sl_tupA (pv 1) po_none (po_some pe_int)) pa_nil)))) (pw_or1 (pt_cmpR (op_notInD hu65) (pe_slice sl_tupA (pv 1) po_none (po_some pe_int)) (pv 0) rfl)))) (pss_one (ps_raise rfl (takes_of rfl rfl rfl rfl) (pmk_own PySem.F.excBase_ValueError (e_NoGoods T) (g_NoGoods T) (ek_NoGoods T) (raises_own (es_NoGoods T) (et_NoGoods T)) rfl))) pss_nil)
      (pss_cons (ps_if (PW.pt (pw_or (pt_not (pt_val (pe_call (ok_iswhole T) (hr.mono (by decide)) rfl (g_iswhole T) (f_iswhole T).kp (b_iswhole T) .nil pass0 (pa_cons (pe_ix ix_tup (pv 1) pe_int (fun _ _ => rfl)) pa_nil)))) (pw_or1 (pt_cmpR op_lt (pe_ix ix_tup (pv 1) pe_int (fun _ _ => rfl)) pe_int (nomark _))))) (pss_one (ps_raise rfl (takes_of rfl rfl rfl rfl) (pmk_own PySem.F.excBase_ValueError (e_NoGoods T) (g_NoGoods T) (ek_NoGoods T) (raises_own (es_NoGoods T) (et_NoGoods T)) rfl))) pss_nil)
      (pss_one (ps_ret (pe_bm PySem.F.plainAttrs_list PySem.F.slot_list_index PySem.F.type_list_index (mt_indexD hu65) (pv 0) (pa_cons (pe_slice sl_tupA (pv 1) po_none (po_some pe_int)) pa_nil))))))), fun B0 H0 => ?_⟩
    have hkn := hk k hm
    have hkn' := hkn
    unfold kndB at hkn'
    simp only [Bool.and_eq_true] at hkn'
    refine ws_seq (ws_if (b := false) (et_orF (et_notT (et_valT (ev_isTupD (x := partD k n) (ev_var rfl)))) ((et_test (ev_neI (ev_lenT (ds := [.str k.1, .str k.2, .int n]) (ev_var rfl)) ev_int)).is rfl)) (fun h => by cases h) fun _ => ws_next ?_)
    refine ws_seq (ws_if (b := false) (et_orF (et_notT (et_valT (ev_call (ea_cons (part_cut (ev_var rfl)) ea_nil) ⟨.pl, k, rfl, name_len hkn'.1, name_len hkn'.2, by rw [hkn]⟩))) ((et_test (ev_notInD (κ := .pl) (κ' := .pl) (x := kD k) (part_cut (ev_var rfl)) (ev_var rfl) ((gd_k (ok_knd hkn)).shaped (by decide)) ((gd_ks fun q hq => ok_knd (hk q hq)).shaped (by decide)))).is ?_)) (fun h => by cases h) fun _ => ws_next ?_)
    · rw [any_ks, decide_eq_true hm]; rfl
    refine ws_seq (ws_if (b := false) (et_orF (et_notT (et_valT (ev_call (ea_cons (part_ix (ev_var rfl)) ea_nil) ⟨.int n, rfl, rfl⟩))) ((et_test (ev_lt (part_ix (ev_var rfl)) ev_int)).is (decide_eq_false (by omega)))) (fun h => by cases h) fun _ => ws_next ?_)
    exact ws_ret (ev_indexD (κ := .pl) (κ' := .pl) (x := kD k) (d := kD k) (ev_var rfl) (part_cut (ev_var rfl)) ((gd_k (ok_knd hkn)).shaped (by decide)) ((gd_ks fun q hq => ok_knd (hk q hq)).shaped (by decide)) (idx_k hm) (by rw [eqv_k]; simp) idx_kno) rfl
  · have hu65 := hu65_of hr
    subst hs hx
    refine ⟨_, (pss_cons (ps_if (PW.pt (pw_or (pt_not (pt_val (pe_callB call_isi rfl (z_isinstance T) (by decide +kernel) (pa_cons (pv 1) (pa_cons (pe_ty (n := "tuple") rfl (z_tuple T) (by decide +kernel)) pa_nil))))) (pw_or1 (pt_cmpR op_ne (pe_callB call_len rfl (z_len T) PySem.boot_len (pa_cons (pv 1) pa_nil)) pe_int (nomark _))))) (pss_one (ps_raise rfl (takes_of rfl rfl rfl rfl) (pmk_own PySem.F.excBase_ValueError (e_NoGoods T) (g_NoGoods T) (ek_NoGoods T) (raises_own (es_NoGoods T) (et_NoGoods T)) rfl))) pss_nil)
      (pss_cons (ps_if (PW.pt (pw_or (pt_not (pt_val (pe_call (ok_iskind T) (hr.mono (by decide)) rfl (g_iskind T) (f_iskind T).kp (b_iskind T) .nil pass0 (pa_cons (pe_slice sl_tupA (pv 1) po_none (po_some pe_int)) pa_nil)))) (pw_or1 (pt_cmpR (op_notInD hu65) (pe_slice sl_tupA (pv 1) po_none (po_some pe_int)) (pv 0) rfl)))) (pss_one (ps_raise rfl (takes_of rfl rfl rfl rfl) (pmk_own PySem.F.excBase_ValueError (e_NoGoods T) (g_NoGoods T) (ek_NoGoods T) (raises_own (es_NoGoods T) (et_NoGoods T)) rfl))) pss_nil)
      (pss_cons (ps_if (PW.pt (pw_or (pt_not (pt_val (pe_call (ok_iswhole T) (hr.mono (by decide)) rfl (g_iswhole T) (f_iswhole T).kp (b_iswhole T) .nil pass0 (pa_cons (pe_ix ix_tup (pv 1) pe_int (fun _ _ => rfl)) pa_nil)))) (pw_or1 (pt_cmpR op_lt (pe_ix ix_tup (pv 1) pe_int (fun _ _ => rfl)) pe_int (nomark _))))) (pss_one (ps_raise rfl (takes_of rfl rfl rfl rfl) (pmk_own PySem.F.excBase_ValueError (e_NoGoods T) (g_NoGoods T) (ek_NoGoods T) (raises_own (es_NoGoods T) (et_NoGoods T)) rfl))) pss_nil)
      (pss_one (ps_ret (pe_bm PySem.F.plainAttrs_list PySem.F.slot_list_index PySem.F.type_list_index (mt_indexD hu65) (pv 0) (pa_cons (pe_slice sl_tupA (pv 1) po_none (po_some pe_int)) pa_nil))))))), fun B0 H0 hE => ?_⟩
    have bad : ∀ {Γ : Cxt} {E' : DE}, WS B0 H0 (fun _ σ H => E (.ref 56) none H) Γ E' := fun {Γ E'} => wx_raise (W := E) fun cls d B H st x => hE cls d B H st x
    have tup : ∀ a b x : PyData, EvT (tOr (tNot (tB (tCB (rIsi K) (tCons (tVar 1) (tCons (tC (.ty "tuple")) tNil))))) (tTest (tOp rNe (tCB (rLen K) (tCons (tVar 1) tNil)) (tC (.int 3))))) (stG N_placeof [dL (ksL ks), .d (.tuple [a, b, x])]) false := fun a b x =>
      et_orF (et_notT (et_valT (ev_isTupD (x := .tuple [a, b, x]) (ev_var rfl)))) ((et_test (ev_neI (ev_lenT (ds := [a, b, x]) (ev_var rfl)) ev_int)).is rfl)
    have kn : ∀ (k : Knd) (x : PyData), k ∈ ks → EvT (tOr (tNot (tB (tCall (spD (fun ss s => ∃ (κ : TK) (k : Knd), ss = [.d (kD k) κ] ∧ k.1.length ≤ 100000 ∧ k.2.length ≤ 100000 ∧ s = dB (kndB k)) noX) [] E0 (tCons (tSl (rSlA K) (tVar 1) tNoPart (tPart (tC (.int 2)))) tNil)))) (tTest (tOp (rNotInD K) (tSl (rSlA K) (tVar 1) tNoPart (tPart (tC (.int 2)))) (tVar 0)))) (stG N_placeof [dL (ksL ks), .d (.tuple [.str k.1, .str k.2, x])]) false := fun k x hm => by
      have hkn := hk k hm
      have hkn' := hkn
      unfold kndB at hkn'
      simp only [Bool.and_eq_true] at hkn'
      refine et_orF (et_notT (et_valT (ev_call (ea_cons (part_cut (ev_var rfl)) ea_nil) ⟨.pl, k, rfl, name_len hkn'.1, name_len hkn'.2, by rw [hkn]⟩))) ((et_test (ev_notInD (κ := .pl) (κ' := .pl) (x := kD k) (part_cut (ev_var rfl)) (ev_var rfl) ((gd_k (ok_knd hkn)).shaped (by decide)) ((gd_ks fun q hq => ok_knd (hk q hq)).shaped (by decide)))).is ?_)
      rw [any_ks, decide_eq_true hm]; rfl
    cases hb with
    | non => exact ws_seq (ws_if (b := true) ((et_or (et_not (et_B (ev_isTupD (x := .none) (ev_var rfl)))) fun h => by cases h) : EvT _ _ (true || true)) (fun _ => bad) fun h => by cases h)
    | lst l => exact ws_seq (ws_if (b := true) ((et_or (et_not (et_B (ev_isTupD (x := .list l) (ev_var rfl)))) fun h => by cases h) : EvT _ _ (true || true)) (fun _ => bad) fun h => by cases h)
    | two a b => exact ws_seq (ws_if (b := true) (et_orF (et_notT (et_valT (ev_isTupD (x := .tuple [.str a, .str b]) (ev_var rfl)))) ((et_test (ev_neI (ev_lenT (ds := [.str a, .str b]) (ev_var rfl)) ev_int)).is rfl)) (fun _ => bad) fun h => by cases h)
    | @name a b x ha hb h =>
      refine ws_seq (ws_if (tup _ _ _) (fun h => by cases h) fun _ => ws_next ?_)
      exact ws_seq (ws_if (b := true) ((et_or (a := true) ((et_not (et_B (ev_call (ea_cons (part_cut (ev_var rfl)) ea_nil) ⟨.pl, (a, b), rfl, ha, hb, rfl⟩))).is (by rw [h]; rfl)) fun h => by cases h) : EvT _ _ (true || true)) (fun _ => bad) fun h => by cases h)
    | @kind a b x h h2 =>
      have hkn' := h
      unfold kndB at hkn'
      simp only [Bool.and_eq_true] at hkn'
      refine ws_seq (ws_if (tup _ _ _) (fun h => by cases h) fun _ => ws_next ?_)
      refine ws_seq (ws_if (b := true) (et_orF (et_notT (et_valT (ev_call (ea_cons (part_cut (ev_var rfl)) ea_nil) ⟨.pl, (a, b), rfl, name_len hkn'.1, name_len hkn'.2, by rw [h]⟩))) ((et_test (ev_notInD (κ := .pl) (κ' := .pl) (x := kD (a, b)) (part_cut (ev_var rfl)) (ev_var rfl) ((gd_k (ok_knd h)).shaped (by decide)) ((gd_ks fun q hq => ok_knd (hk q hq)).shaped (by decide)))).is ?_)) (fun _ => bad) fun h => by cases h)
      rw [any_ks, decide_eq_false h2]; rfl
    | @what k x h h2 =>
      refine ws_seq (ws_if (tup _ _ _) (fun h => by cases h) fun _ => ws_next ?_)
      refine ws_seq (ws_if (kn k x h) (fun h => by cases h) fun _ => ws_next ?_)
      exact ws_seq (ws_if (b := true) ((et_or (a := true) ((et_not (et_B (ev_call (ea_cons (part_ix (ev_var rfl)) ea_nil) ⟨x, rfl, rfl⟩))).is (by rw [h2]; rfl)) fun h => by cases h) : EvT _ _ (true || true)) (fun _ => bad) fun h => by cases h)
    | @small k i h h2 =>
      refine ws_seq (ws_if (tup _ _ _) (fun h => by cases h) fun _ => ws_next ?_)
      refine ws_seq (ws_if (kn k _ h) (fun h => by cases h) fun _ => ws_next ?_)
      exact ws_seq (ws_if (b := true) (et_orF (et_notT (et_valT (ev_call (ea_cons (part_ix (ev_var rfl)) ea_nil) ⟨.int i, rfl, rfl⟩))) ((et_test (ev_lt (part_ix (ev_var rfl)) ev_int)).is (decide_eq_true h2))) (fun _ => bad) fun h => by cases h)
end TG
set_option Elab.async false
set_option linter.all false
set_option maxRecDepth 100000
set_option maxHeartbeats 4000000
/-! W12: goods folded. -/
namespace TG
open PySem PySem.Spec PyProof.Rows L2
variable {P : Program} {w : World} {K : KF} {mg : Str → Option Value} {base : Heap}
abbrev Prt := Knd × Int
def pL (l : List Prt) : List PyData := l.map fun p => partD p.1 p.2
def goodL (ks : List Knd) (l : List Prt) : Prop := ∀ p ∈ l, p.1 ∈ ks ∧ 0 < p.2
def wgt1 (ks : List Knd) (w : List Int) (p : Prt) : List Int := w.set (ks.idxOf p.1) (w.getD (ks.idxOf p.1) 0 + p.2)
def wgt (ks : List Knd) (l : List Prt) : List Int := l.foldl (wgt1 ks) (List.replicate ks.length 0)
theorem wgt_len' (ks : List Knd) : ∀ (l : List Prt) (w : List Int), (l.foldl (wgt1 ks) w).length = w.length
  | [], w => rfl
  | p :: l, w => by rw [List.foldl_cons, wgt_len' ks l]; simp [wgt1]
theorem wgt_len (ks : List Knd) (l : List Prt) : (wgt ks l).length = ks.length := by unfold wgt; rw [wgt_len', List.length_replicate]
theorem wgt_snoc (ks : List Knd) (l : List Prt) (p : Prt) : wgt ks (l ++ [p]) = wgt1 ks (wgt ks l) p := by unfold wgt; rw [List.foldl_append]; rfl
theorem pL_get {l : List Prt} {i : Nat} {x : PyData} (h : (pL l)[i]? = some x) : ∃ p, l[i]? = some p ∧ partD p.1 p.2 = x := by
  unfold pL at h
  rw [List.getElem?_map] at h
  cases q : l[i]? with
  | none => rw [q] at h; cases h
  | some y => rw [q] at h; exact ⟨y, rfl, Option.some.inj h⟩
inductive BadParts (ks : List Knd) : PyData → Prop
  | non : BadParts ks .none
  | tup (l : List PyData) : BadParts ks (.tuple l)
  | many {l : List PyData} (h : l.length = 0 ∨ 40 < l.length) : BadParts ks (.list l)
  | part {l : List Prt} {d : PyData} {r : List PyData} (g : goodL ks l) (b : BadPart ks d) (h : l.length + r.length < 40) : BadParts ks (.list (pL l ++ d :: r))
  | heavy {l : List Prt} (g : goodL ks l) (h1 : 1 ≤ l.length) (h2 : l.length ≤ 40) (h : 1000000000000000 < (wgt ks l).sum) : BadParts ks (.list (pL l))
theorem iL_set (l : List Int) (i : Nat) (v : Int) : (iL l).set i (.int v) = iL (l.set i v) := by unfold iL; rw [List.map_set]
theorem zeros (ks : List Knd) : (((ksL ks).filter fun _ => true).map fun _ => PyData.int 0) = iL (List.replicate ks.length 0) := by
  rw [List.filter_eq_self.mpr (fun _ _ => rfl)]
  unfold ksL iL
  rw [List.map_map]
  induction ks with
  | nil => rfl
  | cons k l ih => rw [List.map_cons, ih]; rfl
theorem ok_folded (T : Txt K mg) : FnOk P w K mg base (L2.CX P w) 4 174 (fdOf K 174) ["kinds", "parts"] (spD (fun ss s => ∃ (ks : List Knd) (l : List Prt), ss = [dL (ksL ks), dL (pL l)] ∧ KsOk ks ∧ goodL ks l ∧ 1 ≤ l.length ∧ l.length ≤ 40 ∧ (wgt ks l).sum ≤ 1000000000000000 ∧ s = .own (iL (wgt ks l)))
    (fun ss x => ∃ (ks : List Knd) (d : PyData), ss = [dL (ksL ks), .d d] ∧ KsOk ks ∧ BadParts ks d ∧ x = ⟨56, none⟩)) := by
  have body : ∀ (ks : List Knd) (l : List Prt) (i : Nat) (p : Prt) (sl : Sl) (o5 o4 o3 : Option Sl) (E : XK) (B0 H0 : Hp) (DEE : DE) (i2 : Nat), KsOk ks → goodL ks l → l[i]? = some p → l.length ≤ 40 →
      (∀ o4', DEE.nx [some (dL (ksL ks)), some sl, some (.own (iL (wgt ks (l.take (i + 1))))), some (.d (partD p.1 p.2)), o4', o5]) →
      WS B0 H0 (tSeq (tAsg (tCall (spD (fun ss s => ∃ (ks : List Knd) (k : Knd) (n : Int), ss = [dL (ksL ks), .d (partD k n)] ∧ (∀ k ∈ ks, kndB k = true) ∧ k ∈ ks ∧ 0 < n ∧ s = dI (ks.idxOf k : Nat)) (fun ss x => ∃ (ks : List Knd) (d : PyData), ss = [dL (ksL ks), .d d] ∧ (∀ k ∈ ks, kndB k = true) ∧ BadPart ks d ∧ x = ⟨56, none⟩)) [] E (tCons (tVar 0) (tCons (tVar 3) tNil))) (gName 4))
        (tAsg (tOp (rI0 fun i j => .int (i + j)) (tOp (rIxL K) (tVar 2) (tVar 4)) (tOp (rIxT K) (tVar 3) (tC (.int 2)))) (gSub (tVar 2) (tVar 4) L2.rSetL))) [some (dL (ksL ks)), some sl, some (.own (iL (wgt ks (l.take i)))), some (.d (partD p.1 p.2)), o4, o5] DEE := by
    intro ks l i p sl o5 o4 o3 E B0 H0 DEE i2 hk hg hi hle hnx
    have hm := List.mem_of_getElem? hi
    obtain ⟨h1, h2⟩ := hg p hm
    refine ws_seq (ws_asg (ev_call (ea_cons (ev_var rfl) (ea_cons (ev_var rfl) ea_nil)) ⟨ks, p.1, p.2, rfl, hk.nm, h1, h2, rfl⟩) ?_)
    have hix : ks.idxOf p.1 < (wgt ks (l.take i)).length := by rw [wgt_len]; exact List.idxOf_lt_length_of_mem h1
    refine ws_setI (i := 2) (κ := .pl) (xs := iL (wgt ks (l.take i))) (j := ks.idxOf p.1) rfl (ev_thaw (i := 2) (κ := .pl) (xs := iL (wgt ks (l.take i))) rfl (ev_add (ev_ixL (κ := .pl) (ds := iL (wgt ks (l.take i))) (ev_var rfl) (ev_var rfl) (atI_nat (i_get hix))) (part_ix (ev_var rfl))) rfl) (ev_var rfl) (by rw [iL_len]; exact hix) ?_
    rw [iL_set]
    have e : l.take (i + 1) = l.take i ++ [p] := by rw [List.take_add_one, hi]; rfl
    have := hnx (some (dI (ks.idxOf p.1 : Nat)))
    rw [e, wgt_snoc] at this
    exact this
  refine Fun.okDX (f_folded T) sc_folded (fun ss s ⟨_, _, h, _⟩ => by rw [h]; rfl) (fun ss x ⟨_, _, h, _⟩ => by rw [h]; rfl) (fun cdv A outer h H E hr ss s ⟨ks, l, hs, hk, hg, h1, h4, hsum, hv⟩ => ?_) (fun cdv A outer h H E hr ss x ⟨ks, d, hs, hk, hb, hx⟩ => ?_)
  · have hu65 := hu65_of hr
    subst hs hv
    refine ⟨_, (pss_cons (ps_if (PW.pt (pw_or (pt_not (pt_val (pe_callB call_isi rfl (z_isinstance T) (by decide +kernel) (pa_cons (pv 1) (pa_cons (pe_ty (n := "list") rfl (z_list T) (by decide +kernel)) pa_nil))))) (pw_or1 (pt_not (pt_chain op_le op_le pe_int (pe_callB call_len rfl (z_len T) PySem.boot_len (pa_cons (pv 1) pa_nil)) (pe_gI rfl (i_ROWSgoods T))))))) (pss_one (ps_raise rfl (takes_of rfl rfl rfl rfl) (pmk_own PySem.F.excBase_ValueError (e_NoGoods T) (g_NoGoods T) (ek_NoGoods T) (raises_own (es_NoGoods T) (et_NoGoods T)) rfl))) pss_nil)
      (pss_cons (ps_setLc (i := 2) (own := [("kind", 5)]) rfl sc_folded.nd rfl rfl (sw_true rfl rfl rfl (by decide +kernel)) (pi_list (pv 0)) (blkOk_by (own := [("kind", 5)]) (N := N_folded) (sc := defScope s_folded) (by decide +kernel)) (fun _ _ _ _ _ => pg_name (i := 5) sc_folded.nd rfl (Or.inl rfl)) (fun _ _ _ _ _ => pts_nil) (fun _ _ _ _ _ => pe_int))
      (pss_cons (ps_for (passes_of rfl) rfl (pi_list (pv 1)) (pg_name (i := 3) sc_folded.nd rfl (Or.inl rfl))
      (pss_cons (ps_set (i := 4) sc_folded.nd rfl (Or.inl rfl) (pe_call (ok_placeof T) (hr.mono (by decide)) rfl (g_placeof T) (f_placeof T).kp (b_placeof T) .nil (passes_call (takes_of rfl rfl rfl rfl) fun _ _ _ _ h => h) (pa_cons (pv 0) (pa_cons (pv 3) pa_nil))))
      (pss_one (ps_asg (pe_op op_add (pe_ix ix_list (pv 2) (pv 4) (fun _ _ => rfl)) (pe_ix ix_tup (pv 3) pe_int (fun _ _ => rfl))) (pg_sub (pv 2) (pv 4) set_list)))))
      (pss_cons (ps_if (pt_cmpR op_gt (pe_callB (cr_sum rfl) rfl (z_sum T) (by decide +kernel) (pa_cons (pv 2) pa_nil)) (pe_gI rfl (i_TOGETHER T)) (nomark _)) (pss_one (ps_raise rfl (takes_of rfl rfl rfl rfl) (pmk_own PySem.F.excBase_ValueError (e_NoGoods T) (g_NoGoods T) (ek_NoGoods T) (raises_own (es_NoGoods T) (et_NoGoods T)) rfl))) pss_nil)
      (pss_one (ps_ret (pv 2))))))), fun B0 H0 => ?_⟩
    have hkl := hk.le
    have hll : (pL l).length = l.length := by simp [pL]
    refine ws_seq (ws_if (b := false) (et_orF (et_notT (et_valT (ev_isLstD (x := .list (pL l)) (ev_var rfl)))) (et_notT ((et_test (ev_chainLe ev_int (ev_lenL (ds := pL l) (ev_var rfl)) ev_int)).is ?_))) (fun h => by cases h) fun _ => ws_next ?_)
    · rw [hll]; simp; omega
    refine ws_seq (ws_asg (s := .own (iL (List.replicate ks.length 0))) ((ev_lcL (κ := .pl) (κ' := .pl) (ds := ksL ks) (fun _ => true) (fun _ => .int 0) (ev_var rfl) (List.mem_cons_self ..) (by rw [ksL_len]; omega) (fun d hd => et_yes) (fun d hd _ => ev_int)).is (by rw [zeros])) ?_)
    refine ws_seq (ws_forL (κ := .pl) (ds := pL l) (f := fun x Γ => Γ.set 3 (some (.d x .pl))) (ev_var rfl) (fun x _ => tg_name) (fun i Γ' => ∃ a b c, Γ' = [some (dL (ksL ks)), some (dL (pL l)), some (.own (iL (wgt ks (l.take i)))), a, b, c]) ⟨_, _, none, rfl⟩ ?_ ?_)
    · rintro i x Γ' hx ⟨a, b, c, rfl⟩
      obtain ⟨p, hp, rfl⟩ := pL_get hx
      exact body ks l i p _ c b a E B0 H0 _ i hk hg hp h4 fun o4' => ⟨_, o4', c, rfl⟩
    · rintro Γ' ⟨a, b, c, rfl⟩
      rw [hll, List.take_length]
      refine ws_seq (ws_if (b := false) (et_thaw (i := 2) (κ := .pl) (xs := iL (wgt ks l)) rfl ((et_test (ev_gt (ev_sumL (κ := .pl) (ns := wgt ks l) (ev_var rfl)) ev_int)).is (decide_eq_false (by omega)))) (fun h => by cases h) fun _ => ws_next ?_)
      exact ws_retOwn rfl rfl
  · have hu65 := hu65_of hr
    subst hs hx
    refine ⟨_, (pss_cons (ps_if (PW.pt (pw_or (pt_not (pt_val (pe_callB call_isi rfl (z_isinstance T) (by decide +kernel) (pa_cons (pv 1) (pa_cons (pe_ty (n := "list") rfl (z_list T) (by decide +kernel)) pa_nil))))) (pw_or1 (pt_not (pt_chain op_le op_le pe_int (pe_callB call_len rfl (z_len T) PySem.boot_len (pa_cons (pv 1) pa_nil)) (pe_gI rfl (i_ROWSgoods T))))))) (pss_one (ps_raise rfl (takes_of rfl rfl rfl rfl) (pmk_own PySem.F.excBase_ValueError (e_NoGoods T) (g_NoGoods T) (ek_NoGoods T) (raises_own (es_NoGoods T) (et_NoGoods T)) rfl))) pss_nil)
      (pss_cons (ps_setLc (i := 2) (own := [("kind", 5)]) rfl sc_folded.nd rfl rfl (sw_true rfl rfl rfl (by decide +kernel)) (pi_list (pv 0)) (blkOk_by (own := [("kind", 5)]) (N := N_folded) (sc := defScope s_folded) (by decide +kernel)) (fun _ _ _ _ _ => pg_name (i := 5) sc_folded.nd rfl (Or.inl rfl)) (fun _ _ _ _ _ => pts_nil) (fun _ _ _ _ _ => pe_int))
      (pss_cons (ps_for (passes_of rfl) rfl (pi_list (pv 1)) (pg_name (i := 3) sc_folded.nd rfl (Or.inl rfl))
      (pss_cons (ps_set (i := 4) sc_folded.nd rfl (Or.inl rfl) (pe_call (ok_placeof T) (hr.mono (by decide)) rfl (g_placeof T) (f_placeof T).kp (b_placeof T) .nil (passes_call (takes_of rfl rfl rfl rfl) fun _ _ _ _ h => h) (pa_cons (pv 0) (pa_cons (pv 3) pa_nil))))
      (pss_one (ps_asg (pe_op op_add (pe_ix ix_list (pv 2) (pv 4) (fun _ _ => rfl)) (pe_ix ix_tup (pv 3) pe_int (fun _ _ => rfl))) (pg_sub (pv 2) (pv 4) set_list)))))
      (pss_cons (ps_if (pt_cmpR op_gt (pe_callB (cr_sum rfl) rfl (z_sum T) (by decide +kernel) (pa_cons (pv 2) pa_nil)) (pe_gI rfl (i_TOGETHER T)) (nomark _)) (pss_one (ps_raise rfl (takes_of rfl rfl rfl rfl) (pmk_own PySem.F.excBase_ValueError (e_NoGoods T) (g_NoGoods T) (ek_NoGoods T) (raises_own (es_NoGoods T) (et_NoGoods T)) rfl))) pss_nil)
      (pss_one (ps_ret (pv 2))))))), fun B0 H0 hE => ?_⟩
    have hkl := hk.le
    have bad : ∀ {Γ : Cxt} {E' : DE}, WS B0 H0 (fun _ σ H => E (.ref 56) none H) Γ E' := fun {Γ E'} => wx_raise (W := E) fun cls d B H st x => hE cls d B H st x
    have first : ∀ (ds : List PyData), 1 ≤ ds.length → ds.length ≤ 40 → EvT (tOr (tNot (tB (tCB (rIsi K) (tCons (tVar 1) (tCons (tC (.ty "list")) tNil))))) (tNot (tTest (tChain (rI0 fun i j => .bl (decide (i ≤ j))) (rI0 fun i j => .bl (decide (i ≤ j))) (tC (.int 1)) (tCB (rLen K) (tCons (tVar 1) tNil)) (tC (.int 40)))))) (stG N_folded [dL (ksL ks), .d (.list ds)]) false := fun ds h1 h2 =>
      et_orF (et_notT (et_valT (ev_isLstD (x := .list ds) (ev_var rfl)))) (et_notT ((et_test (ev_chainLe ev_int (ev_lenL (ds := ds) (ev_var rfl)) ev_int)).is (by simp; omega)))
    cases hb with
    | non => exact ws_seq (ws_if (b := true) ((et_or (et_not (et_B (ev_isLstD (x := .none) (ev_var rfl)))) fun h => by cases h) : EvT _ _ (true || true)) (fun _ => bad) fun h => by cases h)
    | tup l => exact ws_seq (ws_if (b := true) ((et_or (et_not (et_B (ev_isLstD (x := .tuple l) (ev_var rfl)))) fun h => by cases h) : EvT _ _ (true || true)) (fun _ => bad) fun h => by cases h)
    | @many l h =>
      refine ws_seq (ws_if (b := true) (et_orF (et_notT (et_valT (ev_isLstD (x := .list l) (ev_var rfl)))) ((et_not (et_test (ev_chainLe ev_int (ev_lenL (ds := l) (ev_var rfl)) ev_int))).is ?_)) (fun _ => bad) fun h => by cases h)
      rcases h with h | h
      · rw [h]; rfl
      · have : ¬ ((l.length : Int) ≤ 40) := by omega
        simp [this]
    | @part l d r g b h =>
      have hll : (pL l ++ d :: r).length = l.length + r.length + 1 := by simp [pL]; omega
      refine ws_seq (ws_if (first _ (by omega) (by omega)) (fun h => by cases h) fun _ => ws_next ?_)
      refine ws_seq (ws_asg (s := .own (iL (List.replicate ks.length 0))) ((ev_lcL (κ := .pl) (κ' := .pl) (ds := ksL ks) (fun _ => true) (fun _ => .int 0) (ev_var rfl) (List.mem_cons_self ..) (by rw [ksL_len]; omega) (fun d hd => et_yes) (fun d hd _ => ev_int)).is (by rw [zeros])) ?_)
      refine ws_seq (ws_forL (κ := .pl) (ds := pL l ++ d :: r) (f := fun x Γ => Γ.set 3 (some (.d x .pl))) (ev_var rfl) (fun x _ => tg_name) (fun i Γ' => i ≤ l.length ∧ ∃ a b c, Γ' = [some (dL (ksL ks)), some (dL (pL l ++ d :: r)), some (.own (iL (wgt ks (l.take i)))), a, b, c]) ⟨Nat.zero_le _, _, _, none, rfl⟩ ?_ ?_)
      · rintro i x Γ' hx ⟨hi, a, b', c, rfl⟩
        by_cases hlt : i < l.length
        · rw [List.getElem?_append_left (by simpa [pL] using hlt)] at hx
          obtain ⟨p, hp, rfl⟩ := pL_get hx
          exact body ks l i p _ c b' a E B0 H0 _ i hk g hp (by omega) fun o4' => ⟨by omega, _, o4', c, rfl⟩
        · have hi' : i = l.length := by omega
          have hx' : x = d := by
            rw [List.getElem?_append_right (by simp [pL, hi'])] at hx
            simp [pL, hi'] at hx
            exact hx.symm
          subst hx'
          exact ws_seq (wx_asg (W := E) (ex_call (E := E) (ea_cons (ev_var rfl) (ea_cons (ev_var rfl) ea_nil)) ⟨ks, x, rfl, hk.nm, b, rfl⟩) fun cls d B H st x => hE cls d B H st x)
      · rintro Γ' ⟨hi, _⟩
        rw [hll] at hi
        omega
    | @heavy l g h1 h4 hsum =>
      have hll : (pL l).length = l.length := by simp [pL]
      refine ws_seq (ws_if (first _ (by omega) (by omega)) (fun h => by cases h) fun _ => ws_next ?_)
      refine ws_seq (ws_asg (s := .own (iL (List.replicate ks.length 0))) ((ev_lcL (κ := .pl) (κ' := .pl) (ds := ksL ks) (fun _ => true) (fun _ => .int 0) (ev_var rfl) (List.mem_cons_self ..) (by rw [ksL_len]; omega) (fun d hd => et_yes) (fun d hd _ => ev_int)).is (by rw [zeros])) ?_)
      refine ws_seq (ws_forL (κ := .pl) (ds := pL l) (f := fun x Γ => Γ.set 3 (some (.d x .pl))) (ev_var rfl) (fun x _ => tg_name) (fun i Γ' => ∃ a b c, Γ' = [some (dL (ksL ks)), some (dL (pL l)), some (.own (iL (wgt ks (l.take i)))), a, b, c]) ⟨_, _, none, rfl⟩ ?_ ?_)
      · rintro i x Γ' hx ⟨a, b, c, rfl⟩
        obtain ⟨p, hp, rfl⟩ := pL_get hx
        exact body ks l i p _ c b a E B0 H0 _ i hk g hp h4 fun o4' => ⟨_, o4', c, rfl⟩
      · rintro Γ' ⟨a, b, c, rfl⟩
        rw [hll, List.take_length]
        exact ws_seq (ws_if (b := true) (et_thaw (i := 2) (κ := .pl) (xs := iL (wgt ks l)) rfl ((et_test (ev_gt (ev_sumL (κ := .pl) (ns := wgt ks l) (ev_var rfl)) ev_int)).is (decide_eq_true (by omega)))) (fun _ => bad) fun h => by cases h)
end TG
set_option Elab.async false
set_option linter.all false
set_option maxRecDepth 100000
set_option maxHeartbeats 4000000
/-! W13: the ladder, what is picked. -/
namespace TG
open PySem PySem.Spec PyProof.Rows L2
variable {P : Program} {w : World} {K : KF} {mg : Str → Option Value} {base : Heap}
def noteAt (rows : List Rw) (n : List Int) : Nt := match fnds rows n with
  | some r => r.note
  | none => .any
def clAt (ks : List Knd) (rows : List Rw) (look n : List Int) : Bool := (noteAt rows n).cl ks look
def offI (b : Bool) : Int := if b then 0 else 1
def belN (rows : List Rw) (at_ : List Int) (k : Nat) : List Int := (belowN rows at_).getD k []
def ladE (ks : List Knd) (rows : List Rw) (at_ look : List Int) (k : Nat) : PyData :=
  .tuple [.int (cntN ks (noteAt rows (belN rows at_ k))), .int (offI (clAt ks rows (aloneL look) (belN rows at_ k))), .int ((belowN rows at_).length - 1 - k : Int), encN (belN rows at_ k)]
def ladP (ks : List Knd) (rows : List Rw) (at_ look : List Int) (k : Nat) : Bool := clAt ks rows look (belN rows at_ k)
def ladU (ks : List Knd) (rows : List Rw) (at_ look : List Int) (m : Nat) : List PyData := ((List.range m).filter (ladP ks rows at_ look)).map (ladE ks rows at_ look)
def ladD (ks : List Knd) (rows : List Rw) (at_ look : List Int) : List PyData := (ladU ks rows at_ look (belowN rows at_).length).mergeSort (PySem.W.dataLe false id)
theorem lad_alike (ks : List Knd) (rows : List Rw) (at_ look : List Int) (i j : Nat) : PySem.W.alike (ladE ks rows at_ look i) (ladE ks rows at_ look j) = true := by
  simp only [ladE, PySem.W.alike, PySem.W.alikeAll]
  simp only [alike_N]
  rfl
theorem lad_mem {ks : List Knd} {rows : List Rw} {at_ look : List Int} {m : Nat} {d : PyData} (h : d ∈ ladU ks rows at_ look m) : ∃ k, k < m ∧ ladP ks rows at_ look k = true ∧ d = ladE ks rows at_ look k := by
  obtain ⟨k, hk, rfl⟩ := List.mem_map.mp h
  obtain ⟨h1, h2⟩ := List.mem_filter.mp hk
  exact ⟨k, List.mem_range.mp h1, h2, rfl⟩
theorem ladD_mem {ks : List Knd} {rows : List Rw} {at_ look : List Int} {d : PyData} (h : d ∈ ladD ks rows at_ look) : ∃ k, k < (belowN rows at_).length ∧ ladP ks rows at_ look k = true ∧ d = ladE ks rows at_ look k := lad_mem ((List.mergeSort_perm _ _).mem_iff.mp h)
theorem gd_lad (ks : List Knd) (rows : List Rw) (at_ look : List Int) (k : Nat) : Gd 2 (ladE ks rows at_ look k) := gd_tup (n := 1) fun d h => by
  simp only [List.mem_cons, List.not_mem_nil, or_false] at h
  rcases h with rfl | rfl | rfl | rfl
  · exact (gd_int _).mono (by decide)
  · exact (gd_int _).mono (by decide)
  · exact (gd_int _).mono (by decide)
  · exact gd_N _
theorem belowN_len (rows : List Rw) (at_ : List Int) : (belowN rows at_).length ≤ rows.length := by
  unfold belowN belowD
  rw [List.length_map, (List.mergeSort_perm _ _).length_eq, nL_len]
  exact Nat.le_trans (List.length_filter_le _ _) (by rw [List.length_map]; exact Nat.le_refl _)
theorem belN_mem {rows : List Rw} {at_ : List Int} {k : Nat} (h : k < (belowN rows at_).length) : belN rows at_ k ∈ belowN rows at_ := by
  unfold belN
  rw [List.getD_eq_getElem?_getD, List.getElem?_eq_getElem h]
  exact List.getElem_mem h
theorem bel_row {rows : List Rw} {at_ n : List Int} (hok : RowsOk rows) (h : n ∈ belowN rows at_) : ∃ r, fnds rows n = some r ∧ r ∈ rows ∧ r.num = n := by
  obtain ⟨h1, _⟩ := belowN_mem.mp h
  obtain ⟨r, hr, rfl⟩ := List.mem_map.mp h1
  exact ⟨r, fnd_of hr hok.nod, hr, rfl⟩
theorem nL_get {l : List (List Int)} {k : Nat} (h : k < l.length) : (nL l)[k]? = some (encN (l.getD k [])) := by
  simp [nL, h]
theorem alone_len (look : List Int) : (aloneL look).length = look.length := by simp [aloneL]
theorem ok_ladderof (T : Txt K mg) : FnOk P w K mg base CX0 8 673 (fdOf K 673) ["tree", "at", "look"] (spD (fun ss s => ∃ (κ : TK) (ks : List Knd) (one : Bool) (rows : List Rw) (at_ look : List Int), ss = [.ab (TreeP ks one rows), .d (encN at_), .d (.tuple (iL look)) κ] ∧ KsOk ks ∧ RowsOk rows ∧ look.length = ks.length ∧ s = .own (ladD ks rows at_ look)) noX) := by
  refine Fun.okD (f_ladderof T) sc_ladderof (fun ss s ⟨_, _, _, _, _, _, h, _⟩ => by rw [h]; rfl) fun cdv A outer h H E hr ss s ⟨κ, ks, one, rows, at_, look, hs, hk, hok, hl, hv⟩ => ?_
  have hu65 := hu65_of hr
  subst hs hv
  refine ⟨_, (pss_cons (ps_set (i := 3) sc_ladderof.nd rfl (Or.inl rfl) (pe_lst pa_nil))
      (pss_cons (ps_set (i := 4) sc_ladderof.nd rfl (Or.inl rfl) (pe_meth (pv 0) (c_Tree T) (m_Tree_below T) (ok_Treebelow T) (hr.mono (by decide)) (b_Treebelow T) .nil pass0 (pa_cons (pv 1) pa_nil)))
      (pss_cons (ps_set (i := 5) sc_ladderof.nd rfl (Or.inl rfl) (pe_call (ok_aloneof T) (hr.mono (by decide)) rfl (g_aloneof T) (f_aloneof T).kp (b_aloneof T) .nil pass0 (pa_cons (pv 2) pa_nil)))
      (pss_cons (ps_for PassesOwn.never rfl (pi_range1 rfl (z_range T) (pa_cons (pe_callB call_len rfl (z_len T) PySem.boot_len (pa_cons (pv 4) pa_nil)) pa_nil)) (pg_name (i := 6) sc_ladderof.nd rfl (Or.inl rfl))
      (pss_cons (ps_set (i := 7) sc_ladderof.nd rfl (Or.inl rfl) (pe_ix ix_list (pv 4) (pv 6) (fun _ _ => rfl)))
      (pss_one (ps_if (pt_val (pe_meth (pv 0) (c_Tree T) (m_Tree_claims T) (ok_Treeclaims T) (hr.mono (by decide)) (b_Treeclaims T) .nil pass0 (pa_cons (pv 7) (pa_cons (pv 2) pa_nil)))) (pss_cons (ps_set (i := 8) sc_ladderof.nd rfl (Or.inl rfl) (pe_callTy call_int1 rfl (z_int T) (by decide +kernel) (pa_cons (pe_not (pe_meth (pv 0) (c_Tree T) (m_Tree_claims T) (ok_Treeclaims T) (hr.mono (by decide)) (b_Treeclaims T) .nil pass0 (pa_cons (pv 7) (pa_cons (pv 5) pa_nil)))) pa_nil)))
      (pss_one (ps_expr (pe_bm PySem.F.plainAttrs_list PySem.F.slot_list_append PySem.F.type_list_append mt_append (pv 3) (pa_cons (pe_tup (pa_cons (pe_meth (pv 0) (c_Tree T) (m_Tree_looked T) (ok_Treelooked T) (hr.mono (by decide)) (b_Treelooked T) .nil pass0 (pa_cons (pv 7) pa_nil)) (pa_cons (pv 8) (pa_cons (pe_op op_sub (pe_op op_sub (pe_callB call_len rfl (z_len T) PySem.boot_len (pa_cons (pv 4) pa_nil)) pe_int) (pv 6)) (pa_cons (pv 7) pa_nil))))) pa_nil))))) pss_nil))))
      (pss_one (ps_ret (pe_callB (cr_sortD (κ := .pl) hu65) rfl (z_sorted T) (by decide +kernel) (pa_cons (pv 3) pa_nil)))))))), fun B0 H0 => ?_⟩
  have hkp := hk.pos
  have hkl := hk.le
  have hrl := hok.le
  have hbl := belowN_len rows at_
  refine ws_seq (ws_asg (ev_lst (ds := []) (κ := .pl) ea_nil (Nat.zero_le _)) ?_)
  refine ws_seq (ws_asg (ev_fz (ev_meth (ev_abI (ev_var rfl) fun _ _ => TreeP.t0) (rc_tree ks rows "below") (ea_cons (ev_var rfl) ea_nil) ⟨ks, rows, at_, rfl, hok, rfl⟩)) ?_)
  refine ws_seq (ws_asg (ev_call (ea_cons (ev_var rfl) ea_nil) ⟨κ, look, rfl, by omega, by omega, rfl⟩) ?_)
  refine ws_seq (ws_forR (n := (belowN rows at_).length) (ea_cons ((ev_lenL (ds := nL (belowN rows at_)) (ev_var rfl)).is (by rw [nL_len])) ea_nil) (by omega) (fun i Γ' => ∃ a b c, Γ' = [some (.ab (TreeP ks one rows)), some (.d (encN at_)), some (.d (.tuple (iL look)) κ), some (.own (ladU ks rows at_ look i)), some (dL (nL (belowN rows at_))), some (.d (encN (aloneL look))), a, b, c]) ⟨_, _, _, rfl⟩ ?_ ?_)
  · rintro i Γ' hi ⟨a, b, c, rfl⟩
    have hm := belN_mem hi
    obtain ⟨r, hf, hrm, hrn⟩ := bel_row hok hm
    have hna : noteAt rows (belN rows at_ i) = r.note := by unfold noteAt; rw [hf]
    have hca : ∀ l, clAt ks rows l (belN rows at_ i) = r.note.cl ks l := fun l => by unfold clAt; rw [hna]
    have e : ladU ks rows at_ look (i + 1) = ladU ks rows at_ look i ++ if ladP ks rows at_ look i then [ladE ks rows at_ look i] else [] := filt_step (α := Nat) (ladP ks rows at_ look) (ladE ks rows at_ look) i
    refine ws_seq (ws_asg (s := .d (encN (belN rows at_ i))) (ev_ixL (κ := .pl) (ds := nL (belowN rows at_)) (ev_var rfl) (ev_var rfl) (atI_nat (nL_get hi))) ?_)
    refine ws_if (b := ladP ks rows at_ look i) (et_B (ev_meth (ev_abI (ev_var rfl) fun _ _ => TreeP.t0) (rc_tree ks rows "claims") (ea_cons (ev_var rfl) (ea_cons (ev_var rfl) ea_nil)) ⟨κ, ks, rows, belN rows at_ i, r, look, rfl, hk, hok, hf, hl, by rw [← hca]; rfl⟩)) (fun hb => ?_) fun hb => ws_next ⟨some (dI (i : Int)), some (.d (encN (belN rows at_ i))), c, ?_⟩
    · refine ws_seq (ws_asg (s := dI (offI (clAt ks rows (aloneL look) (belN rows at_ i)))) ((ev_intB (ev_notV (ev_meth (ev_abI (ev_var rfl) fun _ _ => TreeP.t0) (rc_tree ks rows "claims") (ea_cons (ev_var rfl) (ea_cons (ev_var rfl) ea_nil)) ⟨.pl, ks, rows, belN rows at_ i, r, aloneL look, rfl, hk, hok, hf, by rw [alone_len, hl], rfl⟩))).is ?_) ?_)
      · rw [hca]
        unfold offI
        cases r.note.cl ks (aloneL look) <;> rfl
      · refine ws_app (κ := .pl) (xs := ladU ks rows at_ look i) rfl (ev_tup (κ := .pl) (ds := [.int (cntN ks (noteAt rows (belN rows at_ i))), .int (offI (clAt ks rows (aloneL look) (belN rows at_ i))), .int ((belowN rows at_).length - 1 - i : Int), encN (belN rows at_ i)]) (ea_cons (ev_meth (ev_var rfl) (fun B v h => rc_tree ks rows "looked" (fun _ _ _ _ => rfl) B v (TreeP.t0 h)) (ea_cons (ev_var rfl) ea_nil) ⟨ks, one, rows, belN rows at_ i, r, rfl, hf, by rw [hna]⟩) (ea_cons (ev_var rfl) (ea_cons (ev_sub (ev_sub ((ev_lenL (ds := nL (belowN rows at_)) (ev_var rfl)).is (by rw [nL_len])) ev_int) (ev_var rfl)) (ea_cons (ev_var rfl) ea_nil)))) (by simp)) ?_ ⟨some (dI (i : Int)), some (.d (encN (belN rows at_ i))), some (dI (offI (clAt ks rows (aloneL look) (belN rows at_ i)))), ?_⟩
        · have : (ladU ks rows at_ look i).length ≤ i := by
            unfold ladU
            rw [List.length_map]
            have := List.length_filter_le (ladP ks rows at_ look) (List.range i)
            rwa [List.length_range] at this
          omega
        · rw [e, hb, if_pos rfl]; rfl
    · rw [e, hb]
      simp only [Bool.false_eq_true, if_false, List.append_nil]
      rfl
  · rintro Γ' ⟨a, b, c, rfl⟩
    refine ws_freeze (i := 3) (κ := .pl) rfl (ws_ret (ev_sortD (κ := .pl) (ds := ladU ks rows at_ look (belowN rows at_).length) (ev_var rfl) ?_ ?_ ?_) rfl)
    · intro d hd d' hd'
      obtain ⟨i, _, _, rfl⟩ := lad_mem hd
      obtain ⟨j, _, _, rfl⟩ := lad_mem hd'
      exact lad_alike ks rows at_ look i j
    · refine Or.inl fun d hd => ?_
      obtain ⟨i, _, _, rfl⟩ := lad_mem hd
      exact ⟨_, _, rfl⟩
    · intro d hd
      obtain ⟨i, _, _, rfl⟩ := lad_mem hd
      exact Nat.le_trans (gd_lad ks rows at_ look i).2 (by decide)
end TG
set_option Elab.async false
set_option linter.all false
set_option maxRecDepth 100000
set_option maxHeartbeats 4000000
/-! W14: what is picked, the way. -/
namespace TG
open PySem PySem.Spec PyProof.Rows L2
variable {P : Program} {w : World} {K : KF} {mg : Str → Option Value} {base : Heap}
inductive PR where
  | go (n : List Int)
  | no (at_ : List Int)
  | two (at_ a b : List Int)
def row3 : PyData → List Int
  | .tuple [_, _, _, n] => unN n
  | _ => []
def ladN (ks : List Knd) (rows : List Rw) (at_ look : List Int) : List (List Int) := (ladD ks rows at_ look).map row3
def ladS (ks : List Knd) (rows : List Rw) (at_ look : List Int) : List (List Int) := ((nL (ladN ks rows at_ look)).mergeSort (PySem.W.dataLe false id)).map unN
def ruleAt (one : Bool) (rows : List Rw) (at_ : List Int) : Bool := if at_ = [] then one else match fnds rows at_ with
  | some r => r.one
  | none => one
def pickP (ks : List Knd) (one : Bool) (rows : List Rw) (at_ look : List Int) : PR :=
  if ladD ks rows at_ look = [] then .no at_ else if ruleAt one rows at_ = true ∧ 1 < (ladD ks rows at_ look).length then .two at_ ((ladS ks rows at_ look).getD 0 []) ((ladS ks rows at_ look).getD 1 []) else .go ((ladN ks rows at_ look).getD 0 [])
def xcOf (ks : List Knd) (look : List Int) : PR → Option Xc
  | .go _ => none
  | .no at_ => some ⟨99, some [("at", .d (encN at_)), ("parcel", .own (partsL ks look))]⟩
  | .two at_ a b => some ⟨118, some [("other", .d (encN b)), ("one", .d (encN a)), ("at", .d (encN at_)), ("parcel", .own (partsL ks look))]⟩
def atOk (rows : List Rw) (at_ : List Int) : Prop := at_ = [] ∨ (at_ ≠ [] ∧ ∃ r, fnds rows at_ = some r)
theorem row3_lad (ks : List Knd) (rows : List Rw) (at_ look : List Int) (k : Nat) : row3 (ladE ks rows at_ look k) = belN rows at_ k := by
  unfold row3 ladE
  exact unN_N _
theorem lad3 {κ : TK} {Γ : Cxt} {te : TE} {ks : List Knd} {rows : List Rw} {at_ look : List Int} {d : PyData} (hd : d ∈ ladD ks rows at_ look) (h : EvS te Γ (.d d κ)) : EvS (tOp (rIxT K) te (tC (.int 3))) Γ (.d (encN (row3 d)) κ) := by
  obtain ⟨k, _, _, rfl⟩ := ladD_mem hd
  rw [row3_lad]
  exact ev_ixT (ds := [_, _, _, encN (belN rows at_ k)]) h ev_int rfl
theorem ladN_enc (ks : List Knd) (rows : List Rw) (at_ look : List Int) : (((ladD ks rows at_ look).filter fun _ => true).map fun d => encN (row3 d)) = nL (ladN ks rows at_ look) := by
  rw [List.filter_eq_self.mpr (fun _ _ => rfl)]
  unfold ladN nL
  rw [List.map_map]; rfl
theorem ladS_enc (ks : List Knd) (rows : List Rw) (at_ look : List Int) : nL (ladS ks rows at_ look) = (nL (ladN ks rows at_ look)).mergeSort (PySem.W.dataLe false id) := by
  unfold ladS
  unfold nL
  rw [List.map_map]
  refine (List.map_congr_left fun d hd => ?_).trans (List.map_id _)
  have := (List.mergeSort_perm _ _).mem_iff.mp hd
  obtain ⟨n, _, rfl⟩ := List.mem_map.mp this
  show encN (unN (encN n)) = id (encN n)
  rw [unN_N]; rfl
theorem ladS_len (ks : List Knd) (rows : List Rw) (at_ look : List Int) : (ladS ks rows at_ look).length = (ladD ks rows at_ look).length := by
  unfold ladS ladN
  rw [List.length_map, (List.mergeSort_perm _ _).length_eq, nL_len, List.length_map]
theorem ladD_len (ks : List Knd) (rows : List Rw) (at_ look : List Int) : (ladD ks rows at_ look).length ≤ rows.length := by
  unfold ladD ladU
  rw [(List.mergeSort_perm _ _).length_eq, List.length_map]
  refine Nat.le_trans (List.length_filter_le _ _) ?_
  rw [List.length_range]
  exact belowN_len rows at_
theorem ladN_ne {ks : List Knd} {rows : List Rw} {at_ look : List Int} (hok : RowsOk rows) : ∀ n ∈ ladN ks rows at_ look, n ∈ belowN rows at_ ∧ n ≠ [] := fun n hn => by
  obtain ⟨d, hd, rfl⟩ := List.mem_map.mp hn
  obtain ⟨k, hk, _, rfl⟩ := ladD_mem hd
  rw [row3_lad]
  have hm := belN_mem hk
  obtain ⟨r, _, hr, e⟩ := bel_row hok hm
  exact ⟨hm, by rw [← e]; exact hok.ne r hr⟩
theorem gd_ladD (ks : List Knd) (rows : List Rw) (at_ look : List Int) : Gd 3 (.list (ladD ks rows at_ look)) := gd_lst (n := 2) fun d hd => by
  obtain ⟨k, _, _, rfl⟩ := ladD_mem hd
  exact gd_lad _ _ _ _ _
theorem eqv_nil (l : List PyData) : PyData.eqv (.list l) (.list []) = decide (l = []) := by
  cases l with
  | nil => simp [PyData.eqv, PyData.eqvAll]
  | cons x l => simp [PyData.eqv, PyData.eqvAll]
theorem one_eq (b : Bool) : decide (ruleS b = "one") = b := by cases b <;> decide +kernel
theorem ok_picked (T : Txt K mg) : FnOk P w K mg base (L2.CX P w) 9 678 (fdOf K 678) ["tree", "at", "look"] (spD (fun ss s => ∃ (κ : TK) (ks : List Knd) (one : Bool) (rows : List Rw) (at_ look n : List Int), ss = [.ab (TreeP ks one rows), .d (encN at_), .d (.tuple (iL look)) κ] ∧ KsOk ks ∧ RowsOk rows ∧ look.length = ks.length ∧ atOk rows at_ ∧ pickP ks one rows at_ look = .go n ∧ s = .d (encN n))
    (fun ss x => ∃ (κ : TK) (ks : List Knd) (one : Bool) (rows : List Rw) (at_ look : List Int), ss = [.ab (TreeP ks one rows), .d (encN at_), .d (.tuple (iL look)) κ] ∧ KsOk ks ∧ RowsOk rows ∧ look.length = ks.length ∧ atOk rows at_ ∧ xcOf ks look (pickP ks one rows at_ look) = some x)) := by
  have start : ∀ (κ : TK) (ks : List Knd) (one : Bool) (rows : List Rw) (at_ look : List Int), KsOk ks → RowsOk rows → look.length = ks.length → EvS (tCall (spD (fun ss s => ∃ (κ : TK) (ks : List Knd) (one : Bool) (rows : List Rw) (at_ look : List Int), ss = [.ab (TreeP ks one rows), .d (encN at_), .d (.tuple (iL look)) κ] ∧ KsOk ks ∧ RowsOk rows ∧ look.length = ks.length ∧ s = .own (ladD ks rows at_ look)) noX) [] E0 (tCons (tVar 0) (tCons (tVar 1) (tCons (tVar 2) tNil)))) (stG N_picked [.ab (TreeP ks one rows), .d (encN at_), .d (.tuple (iL look)) κ]) (dL (ladD ks rows at_ look)) := fun κ ks one rows at_ look hk hok hl =>
    ev_fz (ev_call (ea_cons (ev_var rfl) (ea_cons (ev_var rfl) (ea_cons (ev_var rfl) ea_nil))) ⟨κ, ks, one, rows, at_, look, rfl, hk, hok, hl, rfl⟩)
  have rule : ∀ (κ : TK) (ks : List Knd) (one : Bool) (rows : List Rw) (at_ look : List Int) (Γ : Cxt), Γ = [some (.ab (TreeP ks one rows)), some (.d (encN at_)), some (.d (.tuple (iL look)) κ), some (dL (ladD ks rows at_ look)), none, none] → atOk rows at_ → EvS (tMeth 662 "rule_at" (spD (fun ss s => ∃ ks one rows at_ b, ss = [.ab (TreeP ks one rows), .d (encN at_)] ∧ ((at_ = [] ∧ b = one) ∨ ∃ r, at_ ≠ [] ∧ fnds rows at_ = some r ∧ b = r.one) ∧ s = dS (ruleS b)) noX) [] E0 (tVar 0) (tCons (tVar 1) tNil)) Γ (dS (ruleS (ruleAt one rows at_))) := fun κ ks one rows at_ look Γ hΓ hat => by
    subst hΓ
    refine ev_meth (ev_var rfl) (fun B v h => rc_tree ks rows "rule_at" (fun _ _ _ _ => rfl) B v (TreeP.t0 h)) (ea_cons (ev_var rfl) ea_nil) ⟨ks, one, rows, at_, _, rfl, ?_, rfl⟩
    unfold ruleAt
    rcases hat with h | ⟨h, r, hr⟩
    · exact .inl ⟨h, by rw [if_pos h]⟩
    · exact .inr ⟨r, h, hr, by rw [if_neg h, hr]⟩
  refine Fun.okDX (f_picked T) sc_picked (fun ss s ⟨_, _, _, _, _, _, _, h, _⟩ => by rw [h]; rfl) (fun ss x ⟨_, _, _, _, _, _, h, _⟩ => by rw [h]; rfl) (fun cdv A outer h H E hr ss s ⟨κ, ks, one, rows, at_, look, n, hs, hk, hok, hl, hat, hp, hv⟩ => ?_) (fun cdv A outer h H E hr ss x ⟨κ, ks, one, rows, at_, look, hs, hk, hok, hl, hat, hp⟩ => ?_)
  · have hu65 := hu65_of hr
    have hu64 : A.units + 3 + 64 < cLine := hr.units
    subst hs hv
    refine ⟨_, (pss_cons (ps_set (i := 3) sc_picked.nd rfl (Or.inl rfl) (pe_call (ok_ladderof T) (hr.mono (by decide)) rfl (g_ladderof T) (f_ladderof T).kp (b_ladderof T) .nil pass0 (pa_cons (pv 0) (pa_cons (pv 1) (pa_cons (pv 2) pa_nil)))))
      (pss_cons (ps_if (pt_cmpR (op_eqD hu64) (pv 3) (pe_lst pa_nil) (nomark _)) (pss_one (ps_raise rfl (takes_of rfl rfl rfl rfl) (pmk_oex (oexF (o_NoneClaims T)).cls (oexF (o_NoneClaims T)).ini (oexF (o_NoneClaims T)).fn (ok_NoneClaimsinit T) (hr.mono (by decide)) (b_NoneClaimsinit T) .nil pass0 rfl (g_NoneClaims T) (pa_cons (pe_call (ok_partsof T) (hr.mono (by decide)) rfl (g_partsof T) (f_partsof T).kp (b_partsof T) .nil pass0 (pa_cons (pe_meth0 (pv 0) (c_Tree T) (m_Tree_kinds T) (ok_Treekinds T) (hr.mono (by decide)) (b_Treekinds T) .nil pass0) (pa_cons (pv 2) pa_nil))) (pa_cons (pv 1) pa_nil))))) pss_nil)
      (pss_cons (ps_if (PW.pt (pw_and (pt_cmpR op_eq (pe_meth (pv 0) (c_Tree T) (m_Tree_ruleat T) (ok_Treeruleat T) (hr.mono (by decide)) (b_Treeruleat T) .nil pass0 (pa_cons (pv 1) pa_nil)) (pe_gS rfl (x_ONE T)) (nomark _)) (pw_and1 (pt_cmpR op_gt (pe_callB call_len rfl (z_len T) PySem.boot_len (pa_cons (pv 3) pa_nil)) pe_int (nomark _))))) (pss_cons (ps_set (i := 4) sc_picked.nd rfl (Or.inl rfl) (pe_callB (cr_sortD (κ := .pl) hu65) rfl (z_sorted T) (by decide +kernel) (pa_cons (pe_lc (own := [("row", 5)]) rfl sc_picked.nd (pi_list (pv 3)) (blkOk_by (own := [("row", 5)]) (N := N_picked) (sc := defScope s_picked) (by decide +kernel)) (fun _ _ _ _ _ => pg_name (i := 5) sc_picked.nd rfl (Or.inl rfl)) (fun _ _ _ _ _ => pts_nil) (fun _ _ _ _ _ => (pe_ix (r := rIxT K) ix_tup (pv 5) pe_int (fun _ _ => rfl)))) pa_nil)))
      (pss_one (ps_raise rfl (takes_of rfl rfl rfl rfl) (pmk_oex (oexF (o_TwoClaim T)).cls (oexF (o_TwoClaim T)).ini (oexF (o_TwoClaim T)).fn (ok_TwoClaiminit T) (hr.mono (by decide)) (b_TwoClaiminit T) .nil pass0 rfl (g_TwoClaim T) (pa_cons (pe_call (ok_partsof T) (hr.mono (by decide)) rfl (g_partsof T) (f_partsof T).kp (b_partsof T) .nil pass0 (pa_cons (pe_meth0 (pv 0) (c_Tree T) (m_Tree_kinds T) (ok_Treekinds T) (hr.mono (by decide)) (b_Treekinds T) .nil pass0) (pa_cons (pv 2) pa_nil))) (pa_cons (pv 1) (pa_cons (pe_ix ix_list (pv 4) pe_int (fun _ _ => rfl)) (pa_cons (pe_ix ix_list (pv 4) pe_int (fun _ _ => rfl)) pa_nil)))))))) pss_nil)
      (pss_one (ps_ret (pe_ix ix_tup (pe_ix ix_list (pv 3) pe_int (fun _ _ => rfl)) pe_int (fun _ _ => rfl))))))), fun B0 H0 => ?_⟩
    have hne : ladD ks rows at_ look ≠ [] := fun e => by unfold pickP at hp; rw [if_pos e] at hp; cases hp
    have hno : ¬ (ruleAt one rows at_ = true ∧ 1 < (ladD ks rows at_ look).length) := fun e => by unfold pickP at hp; rw [if_neg hne, if_pos e] at hp; cases hp
    have hn : n = (ladN ks rows at_ look).getD 0 [] := by unfold pickP at hp; rw [if_neg hne, if_neg hno] at hp; cases hp; rfl
    refine ws_seq (ws_asg (start κ ks one rows at_ look hk hok hl) ?_)
    refine ws_seq (ws_if (b := false) ((et_test (ev_eqD (κ := .pl) (κ' := .pl) (x := .list (ladD ks rows at_ look)) (y := .list []) (ev_var rfl) (ev_fz (ev_lst (ds := []) (κ := .pl) ea_nil (by decide))) ((gd_ladD _ _ _ _).shaped (by decide)) ((gd_lst (n := 0) (l := []) fun _ h => by cases h).shaped (by decide)))).is (by rw [eqv_nil]; exact decide_eq_false hne)) (fun h => by cases h) fun _ => ws_next ?_)
    refine ws_seq (ws_if (b := ruleAt one rows at_ && decide (1 < (ladD ks rows at_ look).length)) (et_and ((et_test (ev_eqS (rule κ ks one rows at_ look _ rfl hat) ev_str)).is (one_eq _)) fun _ => (et_test (ev_gt (ev_lenL (κ := .pl) (ds := ladD ks rows at_ look) (ev_var rfl)) ev_int)).is ?_) (fun hb => ?_) fun _ => ws_next ?_)
    · congr 1
      exact propext ⟨fun h => by omega, fun h => by omega⟩
    · exfalso
      rw [Bool.and_eq_true, decide_eq_true_eq] at hb
      exact hno hb
    · obtain ⟨d, l, e⟩ : ∃ d l, ladD ks rows at_ look = d :: l := by
        cases q : ladD ks rows at_ look with
        | nil => exact absurd q hne
        | cons d l => exact ⟨d, l, rfl⟩
      refine ws_ret (lad3 (ks := ks) (rows := rows) (at_ := at_) (look := look) (d := d) (by rw [e]; exact List.mem_cons_self ..) (ev_ixL (κ := .pl) (ds := ladD ks rows at_ look) (ev_var rfl) ev_int (atI_nat (k := 0) (by rw [e]; rfl)))) ?_
      rw [hn]
      unfold ladN
      rw [e]
      rfl
  · have hu65 := hu65_of hr
    have hu64 : A.units + 3 + 64 < cLine := hr.units
    subst hs
    refine ⟨_, (pss_cons (ps_set (i := 3) sc_picked.nd rfl (Or.inl rfl) (pe_call (ok_ladderof T) (hr.mono (by decide)) rfl (g_ladderof T) (f_ladderof T).kp (b_ladderof T) .nil pass0 (pa_cons (pv 0) (pa_cons (pv 1) (pa_cons (pv 2) pa_nil)))))
      (pss_cons (ps_if (pt_cmpR (op_eqD hu64) (pv 3) (pe_lst pa_nil) (nomark _)) (pss_one (ps_raise rfl (takes_of rfl rfl rfl rfl) (pmk_oex (oexF (o_NoneClaims T)).cls (oexF (o_NoneClaims T)).ini (oexF (o_NoneClaims T)).fn (ok_NoneClaimsinit T) (hr.mono (by decide)) (b_NoneClaimsinit T) .nil pass0 rfl (g_NoneClaims T) (pa_cons (pe_call (ok_partsof T) (hr.mono (by decide)) rfl (g_partsof T) (f_partsof T).kp (b_partsof T) .nil pass0 (pa_cons (pe_meth0 (pv 0) (c_Tree T) (m_Tree_kinds T) (ok_Treekinds T) (hr.mono (by decide)) (b_Treekinds T) .nil pass0) (pa_cons (pv 2) pa_nil))) (pa_cons (pv 1) pa_nil))))) pss_nil)
      (pss_cons (ps_if (PW.pt (pw_and (pt_cmpR op_eq (pe_meth (pv 0) (c_Tree T) (m_Tree_ruleat T) (ok_Treeruleat T) (hr.mono (by decide)) (b_Treeruleat T) .nil pass0 (pa_cons (pv 1) pa_nil)) (pe_gS rfl (x_ONE T)) (nomark _)) (pw_and1 (pt_cmpR op_gt (pe_callB call_len rfl (z_len T) PySem.boot_len (pa_cons (pv 3) pa_nil)) pe_int (nomark _))))) (pss_cons (ps_set (i := 4) sc_picked.nd rfl (Or.inl rfl) (pe_callB (cr_sortD (κ := .pl) hu65) rfl (z_sorted T) (by decide +kernel) (pa_cons (pe_lc (own := [("row", 5)]) rfl sc_picked.nd (pi_list (pv 3)) (blkOk_by (own := [("row", 5)]) (N := N_picked) (sc := defScope s_picked) (by decide +kernel)) (fun _ _ _ _ _ => pg_name (i := 5) sc_picked.nd rfl (Or.inl rfl)) (fun _ _ _ _ _ => pts_nil) (fun _ _ _ _ _ => (pe_ix (r := rIxT K) ix_tup (pv 5) pe_int (fun _ _ => rfl)))) pa_nil)))
      (pss_one (ps_raise rfl (takes_of rfl rfl rfl rfl) (pmk_oex (oexF (o_TwoClaim T)).cls (oexF (o_TwoClaim T)).ini (oexF (o_TwoClaim T)).fn (ok_TwoClaiminit T) (hr.mono (by decide)) (b_TwoClaiminit T) .nil pass0 rfl (g_TwoClaim T) (pa_cons (pe_call (ok_partsof T) (hr.mono (by decide)) rfl (g_partsof T) (f_partsof T).kp (b_partsof T) .nil pass0 (pa_cons (pe_meth0 (pv 0) (c_Tree T) (m_Tree_kinds T) (ok_Treekinds T) (hr.mono (by decide)) (b_Treekinds T) .nil pass0) (pa_cons (pv 2) pa_nil))) (pa_cons (pv 1) (pa_cons (pe_ix ix_list (pv 4) pe_int (fun _ _ => rfl)) (pa_cons (pe_ix ix_list (pv 4) pe_int (fun _ _ => rfl)) pa_nil)))))))) pss_nil)
      (pss_one (ps_ret (pe_ix ix_tup (pe_ix ix_list (pv 3) pe_int (fun _ _ => rfl)) pe_int (fun _ _ => rfl))))))), fun B0 H0 hE => ?_⟩
    have hkl := hk.le
    have parts : ∀ (Γ : Cxt), Γ[0]? = some (some (.ab (TreeP ks one rows))) → Γ[2]? = some (some (.d (.tuple (iL look)) κ)) → EvS (tCall (spD (fun ss s => ∃ (κ : TK) (ks : List Knd) (ws : List Int), ss = [dL (ksL ks), .d (.tuple (iL ws)) κ] ∧ ws.length = ks.length ∧ ks.length ≤ 1000 ∧ s = .own (partsL ks ws)) noX) [] E0 (tCons (tMeth 662 "kinds" (spD (fun ss s => ∃ ks rows, ss = [.ab (Tree0 ks rows)] ∧ s = .own (ksL ks)) noX) [] E0 (tVar 0) tNil) (tCons (tVar 2) tNil))) Γ (.own (partsL ks look)) := fun Γ e0 e2 =>
      ev_call (ea_cons (ev_fz (ev_meth (ev_abI (ev_var e0) fun _ _ => TreeP.t0) (rc_tree ks rows "kinds") ea_nil ⟨ks, rows, rfl, rfl⟩)) (ea_cons (ev_var e2) ea_nil)) ⟨κ, ks, look, rfl, hl, by omega, rfl⟩
    refine ws_seq (ws_asg (start κ ks one rows at_ look hk hok hl) ?_)
    by_cases hne : ladD ks rows at_ look = []
    · have hx : xcOf ks look (.no at_) = some x := by
        have : pickP ks one rows at_ look = .no at_ := by unfold pickP; rw [if_pos hne]
        rw [this] at hp; exact hp
      cases hx
      refine ws_seq (ws_if (b := true) ((et_test (ev_eqD (κ := .pl) (κ' := .pl) (x := .list (ladD ks rows at_ look)) (y := .list []) (ev_var rfl) (ev_fz (ev_lst (ds := []) (κ := .pl) ea_nil (by decide))) ((gd_ladD _ _ _ _).shaped (by decide)) ((gd_lst (n := 0) (l := []) fun _ h => by cases h).shaped (by decide)))).is (by rw [eqv_nil]; exact decide_eq_true hne)) (fun _ => ?_) fun h => by cases h)
      exact wx_raiseX (W := E) (names := ["parcel", "at"]) (s := .own (partsL ks look)) (ss := [.d (encN at_)]) (parts _ rfl rfl) (ea_cons (ev_var rfl) ea_nil) rfl (by decide) fun cls d B H st xr => hE cls d B H st xr
    · by_cases hyes : ruleAt one rows at_ = true ∧ 1 < (ladD ks rows at_ look).length
      · have hx : xcOf ks look (.two at_ ((ladS ks rows at_ look).getD 0 []) ((ladS ks rows at_ look).getD 1 [])) = some x := by
          have : pickP ks one rows at_ look = .two at_ ((ladS ks rows at_ look).getD 0 []) ((ladS ks rows at_ look).getD 1 []) := by unfold pickP; rw [if_neg hne, if_pos hyes]
          rw [this] at hp; exact hp
        cases hx
        refine ws_seq (ws_if (b := false) ((et_test (ev_eqD (κ := .pl) (κ' := .pl) (x := .list (ladD ks rows at_ look)) (y := .list []) (ev_var rfl) (ev_fz (ev_lst (ds := []) (κ := .pl) ea_nil (by decide))) ((gd_ladD _ _ _ _).shaped (by decide)) ((gd_lst (n := 0) (l := []) fun _ h => by cases h).shaped (by decide)))).is (by rw [eqv_nil]; exact decide_eq_false hne)) (fun h => by cases h) fun _ => ws_next ?_)
        refine ws_seq (ws_if (b := true) (et_andT ((et_test (ev_eqS (rule κ ks one rows at_ look _ rfl hat) ev_str)).is (by rw [one_eq]; exact hyes.1)) ((et_test (ev_gt (ev_lenL (κ := .pl) (ds := ladD ks rows at_ look) (ev_var rfl)) ev_int)).is (decide_eq_true (by omega)))) (fun _ => ?_) fun h => by cases h)
        have hll := ladD_len ks rows at_ look
        have hrl := hok.le
        refine ws_seq (ws_asg (s := dL (nL (ladS ks rows at_ look))) (ev_fz ((ev_sortD (κ := .pl) (ds := nL (ladN ks rows at_ look)) ((ev_fz (ev_lcL (κ := .pl) (κ' := .pl) (ds := ladD ks rows at_ look) (fun _ => true) (fun d => encN (row3 d)) (ev_var rfl) (List.mem_cons_self ..) (by omega) (fun d hd => et_yes) (fun d hd _ => lad3 hd (ev_var rfl)))).is (by rw [ladN_enc])) (nums_alike _) (nums_sortable fun n hn => (ladN_ne hok n hn).2) (nums_depth _)).is (by rw [ladS_enc]))) ?_)
        have hsl := ladS_len ks rows at_ look
        exact wx_raiseX (W := E) (names := ["parcel", "at", "one", "other"]) (s := .own (partsL ks look)) (ss := [.d (encN at_), .d (encN ((ladS ks rows at_ look).getD 0 [])), .d (encN ((ladS ks rows at_ look).getD 1 []))]) (parts _ rfl rfl) (ea_cons (ev_var rfl) (ea_cons (ev_ixL (κ := .pl) (ds := nL (ladS ks rows at_ look)) (ev_var rfl) ev_int (atI_nat (k := 0) (nL_get (by omega)))) (ea_cons (ev_ixL (κ := .pl) (ds := nL (ladS ks rows at_ look)) (ev_var rfl) ev_int (atI_nat (k := 1) (nL_get (by omega)))) ea_nil))) rfl (by decide) fun cls d B H st xr => hE cls d B H st xr
      · exfalso
        have : pickP ks one rows at_ look = .go ((ladN ks rows at_ look).getD 0 []) := by unfold pickP; rw [if_neg hne, if_neg hyes]
        rw [this] at hp; cases hp
end TG
set_option Elab.async false
set_option linter.all false
set_option maxRecDepth 100000
set_option maxHeartbeats 4000000
/-! W15: ways, headings, the audit. -/
namespace TG
open PySem PySem.Spec PyProof.Rows L2
variable {P : Program} {w : World} {K : KF} {mg : Str → Option Value} {base : Heap}
def wayR (ks : List Knd) (one : Bool) (rows : List Rw) (look : List Int) : Nat → List Int → List (List Int) × PR
  | 0, at_ => ([], .go at_)
  | f + 1, at_ => if belowN rows at_ = [] then ([], .go at_) else match pickP ks one rows at_ look with
    | .go n => ((n :: (wayR ks one rows look f n).1), (wayR ks one rows look f n).2)
    | .no a => ([], .no a)
    | .two a b c => ([], .two a b c)
theorem wayR_succ (ks : List Knd) (one : Bool) (rows : List Rw) (look : List Int) (f : Nat) (at_ : List Int) : wayR ks one rows look (f + 1) at_ = if belowN rows at_ = [] then ([], .go at_) else match pickP ks one rows at_ look with
    | .go n => ((n :: (wayR ks one rows look f n).1), (wayR ks one rows look f n).2)
    | .no a => ([], .no a)
    | .two a b c => ([], .two a b c) := rfl
theorem pick_mem {ks : List Knd} {one : Bool} {rows : List Rw} {at_ look n : List Int} (hok : RowsOk rows) (h : pickP ks one rows at_ look = .go n) : n ∈ belowN rows at_ ∧ n ≠ [] := by
  unfold pickP at h
  split at h
  · cases h
  · next hne =>
    split at h
    · cases h
    · cases h
      refine ladN_ne (ks := ks) (look := look) hok _ ?_
      have hl : 0 < (ladN ks rows at_ look).length := by
        unfold ladN
        rw [List.length_map]
        exact List.length_pos_iff.mpr hne
      rw [List.getD_eq_getElem?_getD, List.getElem?_eq_getElem hl]
      exact List.getElem_mem hl
theorem bel_len {rows : List Rw} {at_ n : List Int} (h : n ∈ belowN rows at_) (hn : n ≠ []) : n.length = at_.length + 1 := by
  obtain ⟨_, h2⟩ := belowN_mem.mp h
  rw [← h2, List.length_dropLast]
  have := List.length_pos_iff.mpr hn
  omega
theorem bel_ok {rows : List Rw} {at_ n : List Int} (hok : RowsOk rows) (h : n ∈ belowN rows at_) (hn : n ≠ []) : atOk rows n := by
  obtain ⟨r, hr, _, _⟩ := bel_row hok h
  exact .inr ⟨hn, r, hr⟩
theorem atOk_len {rows : List Rw} {at_ : List Int} (hok : RowsOk rows) (h : atOk rows at_) : at_.length ≤ 4 := by
  rcases h with rfl | ⟨_, r, hr⟩
  · decide
  · obtain ⟨e, hm⟩ := fnd_num hr
    rw [← e]; exact hok.len r hm
def bodyNe : PyData → Bool := fun _ => true
theorem ok_wayof (T : Txt K mg) : FnOk P w K mg base (L2.CX P w) 10 685 (fdOf K 685) ["tree", "look"] (spD (fun ss s => ∃ (κ : TK) (ks : List Knd) (one : Bool) (rows : List Rw) (look n : List Int), ss = [.ab (TreeP ks one rows), .d (.tuple (iL look)) κ] ∧ KsOk ks ∧ RowsOk rows ∧ look.length = ks.length ∧ (wayR ks one rows look 5 []).2 = .go n ∧ s = .own (nL (wayR ks one rows look 5 []).1))
    (fun ss x => ∃ (κ : TK) (ks : List Knd) (one : Bool) (rows : List Rw) (look : List Int), ss = [.ab (TreeP ks one rows), .d (.tuple (iL look)) κ] ∧ KsOk ks ∧ RowsOk rows ∧ look.length = ks.length ∧ xcOf ks look (wayR ks one rows look 5 []).2 = some x)) := by
  have test : ∀ (κ : TK) (ks : List Knd) (one : Bool) (rows : List Rw) (at_ look : List Int) (way : List (List Int)), RowsOk rows → EvT (tTest (tOp (rNeD K) (tMeth 662 "below" (spD (fun ss s => ∃ ks rows at_, ss = [.ab (Tree0 ks rows), .d (encN at_)] ∧ RowsOk rows ∧ s = .own (nL (belowN rows at_))) noX) [] E0 (tVar 0) (tCons (tVar 3) tNil)) (tLst tNil))) [some (.ab (TreeP ks one rows)), some (.d (.tuple (iL look)) κ), some (.own (nL way)), some (.d (encN at_))] (!decide (belowN rows at_ = [])) := fun κ ks one rows at_ look way hok => by
    refine (et_test (ev_neD (κ := .pl) (κ' := .pl) (ev_fz (ev_meth (ev_abI (ev_var rfl) fun _ _ => TreeP.t0) (rc_tree ks rows "below") (ea_cons (ev_var rfl) ea_nil) ⟨ks, rows, at_, rfl, hok, rfl⟩)) (ev_fz (ev_lst (ds := []) (κ := .pl) ea_nil (by decide))) ((gd_lst (n := 1) fun d hd => ?_).shaped (by decide)) ((gd_lst (n := 0) (l := []) fun _ h => by cases h).shaped (by decide)))).is ?_
    · obtain ⟨n, _, rfl⟩ := List.mem_map.mp hd
      exact gd_N n
    · rw [eqv_nil]
      congr 1
      unfold nL
      simp
  refine Fun.okDX (f_wayof T) sc_wayof (fun ss s ⟨_, _, _, _, _, _, h, _⟩ => by rw [h]; rfl) (fun ss x ⟨_, _, _, _, _, h, _⟩ => by rw [h]; rfl) (fun cdv A outer h H E hr ss s ⟨κ, ks, one, rows, look, n, hs, hk, hok, hl, hw, hv⟩ => ?_) (fun cdv A outer h H E hr ss x ⟨κ, ks, one, rows, look, hs, hk, hok, hl, hx⟩ => ?_)
  · have hu64 : A.units + 3 + 64 < cLine := hr.units
    subst hs hv
    refine ⟨_, (pss_cons (ps_set (i := 2) sc_wayof.nd rfl (Or.inl rfl) (pe_lst pa_nil))
      (pss_cons (ps_set (i := 3) sc_wayof.nd rfl (Or.inl rfl) (pe_tup pa_nil))
      (pss_cons (ps_while (passes_of rfl) (pt_cmpR (op_neD hu64) (pe_meth (pv 0) (c_Tree T) (m_Tree_below T) (ok_Treebelow T) (hr.mono (by decide)) (b_Treebelow T) .nil pass0 (pa_cons (pv 3) pa_nil)) (pe_lst pa_nil) (nomark _))
      (pss_cons (ps_set (i := 3) sc_wayof.nd rfl (Or.inl rfl) (pe_call (ok_picked T) (hr.mono (by decide)) rfl (g_picked T) (f_picked T).kp (b_picked T) .nil (passes_call (takes_of rfl rfl rfl rfl) fun _ _ _ _ h => h) (pa_cons (pv 0) (pa_cons (pv 3) (pa_cons (pv 1) pa_nil)))))
      (pss_one (ps_expr (pe_bm PySem.F.plainAttrs_list PySem.F.slot_list_append PySem.F.type_list_append mt_append (pv 2) (pa_cons (pv 3) pa_nil))))))
      (pss_one (ps_ret (pv 2)))))), fun B0 H0 => ?_⟩
    refine ws_seq (ws_asg (ev_lst (ds := []) (κ := .pl) ea_nil (Nat.zero_le _)) ?_)
    refine ws_seq (ws_asg (s := .d (encN [])) (ev_tup (κ := .pl) (ds := []) ea_nil (Nat.zero_le _)) ?_)
    refine ws_seq (ws_while (fun m Γ' => ∃ (at_ : List Int) (way : List (List Int)), m + at_.length = 5 ∧ atOk rows at_ ∧ way.length ≤ at_.length ∧ Γ' = [some (.ab (TreeP ks one rows)), some (.d (.tuple (iL look)) κ), some (.own (nL way)), some (.d (encN at_))] ∧ way ++ (wayR ks one rows look m at_).1 = (wayR ks one rows look 5 []).1 ∧ (wayR ks one rows look m at_).2 = (wayR ks one rows look 5 []).2) 5 ⟨[], [], rfl, .inl rfl, Nat.le_refl _, rfl, rfl, rfl⟩ ?_)
    rintro m Γ' ⟨at_, way, hm, hat, hwl, rfl, h1, h2⟩
    have h4 := atOk_len hok hat
    obtain ⟨f, rfl⟩ : ∃ f, m = f + 1 := ⟨m - 1, by omega⟩
    refine ⟨_, test κ ks one rows at_ look way hok, fun hb => ?_, fun hb => ?_⟩
    · have hne : belowN rows at_ ≠ [] := by simpa using hb
      rw [wayR_succ ks one rows look f at_] at h1 h2
      rw [if_neg hne] at h1 h2
      cases hp : pickP ks one rows at_ look with
      | no a => rw [hp] at h2; rw [← h2] at hw; cases hw
      | two a b c => rw [hp] at h2; rw [← h2] at hw; cases hw
      | go q =>
        rw [hp] at h1 h2
        obtain ⟨hq1, hq2⟩ := pick_mem hok hp
        have hql := bel_len hq1 hq2
        refine ws_seq (ws_asg (s := .d (encN q)) (ev_call (ea_cons (ev_var rfl) (ea_cons (ev_var rfl) (ea_cons (ev_var rfl) ea_nil))) ⟨κ, ks, one, rows, at_, look, q, rfl, hk, hok, hl, hat, hp, rfl⟩) ?_)
        refine ws_app (κ := .pl) (xs := nL way) rfl (ev_var rfl) (by rw [nL_len]; omega) ⟨f, by omega, q, way ++ [q], by omega, bel_ok hok hq1 hq2, by rw [List.length_append, hql]; simp; exact hwl, ?_, ?_, h2⟩
        · simp [nL]
        · rw [List.append_assoc]; exact h1
    · have he : belowN rows at_ = [] := by simpa using hb
      rw [wayR_succ ks one rows look f at_] at h1 h2
      rw [if_pos he] at h1 h2
      rw [List.append_nil] at h1
      refine ws_retOwn rfl ?_
      rw [h1]
  · have hu64 : A.units + 3 + 64 < cLine := hr.units
    subst hs
    refine ⟨_, (pss_cons (ps_set (i := 2) sc_wayof.nd rfl (Or.inl rfl) (pe_lst pa_nil))
      (pss_cons (ps_set (i := 3) sc_wayof.nd rfl (Or.inl rfl) (pe_tup pa_nil))
      (pss_cons (ps_while (passes_of rfl) (pt_cmpR (op_neD hu64) (pe_meth (pv 0) (c_Tree T) (m_Tree_below T) (ok_Treebelow T) (hr.mono (by decide)) (b_Treebelow T) .nil pass0 (pa_cons (pv 3) pa_nil)) (pe_lst pa_nil) (nomark _))
      (pss_cons (ps_set (i := 3) sc_wayof.nd rfl (Or.inl rfl) (pe_call (ok_picked T) (hr.mono (by decide)) rfl (g_picked T) (f_picked T).kp (b_picked T) .nil (passes_call (takes_of rfl rfl rfl rfl) fun _ _ _ _ h => h) (pa_cons (pv 0) (pa_cons (pv 3) (pa_cons (pv 1) pa_nil)))))
      (pss_one (ps_expr (pe_bm PySem.F.plainAttrs_list PySem.F.slot_list_append PySem.F.type_list_append mt_append (pv 2) (pa_cons (pv 3) pa_nil))))))
      (pss_one (ps_ret (pv 2)))))), fun B0 H0 hE => ?_⟩
    refine ws_seq (ws_asg (ev_lst (ds := []) (κ := .pl) ea_nil (Nat.zero_le _)) ?_)
    refine ws_seq (ws_asg (s := .d (encN [])) (ev_tup (κ := .pl) (ds := []) ea_nil (Nat.zero_le _)) ?_)
    refine ws_seq (ws_while (fun m Γ' => ∃ (at_ : List Int) (way : List (List Int)), m + at_.length = 5 ∧ atOk rows at_ ∧ way.length ≤ at_.length ∧ Γ' = [some (.ab (TreeP ks one rows)), some (.d (.tuple (iL look)) κ), some (.own (nL way)), some (.d (encN at_))] ∧ (wayR ks one rows look m at_).2 = (wayR ks one rows look 5 []).2) 5 ⟨[], [], rfl, .inl rfl, Nat.le_refl _, rfl, rfl⟩ ?_)
    rintro m Γ' ⟨at_, way, hm, hat, hwl, rfl, h2⟩
    have h4 := atOk_len hok hat
    obtain ⟨f, rfl⟩ : ∃ f, m = f + 1 := ⟨m - 1, by omega⟩
    refine ⟨_, test κ ks one rows at_ look way hok, fun hb => ?_, fun hb => ?_⟩
    · have hne : belowN rows at_ ≠ [] := by simpa using hb
      rw [wayR_succ ks one rows look f at_] at h2
      rw [if_neg hne] at h2
      cases hp : pickP ks one rows at_ look with
      | no a => rw [hp] at h2; exact ws_seq (wx_asg (W := E) (ex_call (E := E) (ea_cons (ev_var rfl) (ea_cons (ev_var rfl) (ea_cons (ev_var rfl) ea_nil))) ⟨κ, ks, one, rows, at_, look, rfl, hk, hok, hl, hat, by rw [hp]; rw [← h2] at hx; exact hx⟩) fun cls d B H st xr => hE cls d B H st xr)
      | two a b c => rw [hp] at h2; exact ws_seq (wx_asg (W := E) (ex_call (E := E) (ea_cons (ev_var rfl) (ea_cons (ev_var rfl) (ea_cons (ev_var rfl) ea_nil))) ⟨κ, ks, one, rows, at_, look, rfl, hk, hok, hl, hat, by rw [hp]; rw [← h2] at hx; exact hx⟩) fun cls d B H st xr => hE cls d B H st xr)
      | go q =>
        rw [hp] at h2
        obtain ⟨hq1, hq2⟩ := pick_mem hok hp
        have hql := bel_len hq1 hq2
        refine ws_seq (ws_asg (s := .d (encN q)) (ev_call (ea_cons (ev_var rfl) (ea_cons (ev_var rfl) (ea_cons (ev_var rfl) ea_nil))) ⟨κ, ks, one, rows, at_, look, q, rfl, hk, hok, hl, hat, hp, rfl⟩) ?_)
        refine ws_app (κ := .pl) (xs := nL way) rfl (ev_var rfl) (by rw [nL_len]; omega) ⟨f, by omega, q, way ++ [q], by omega, bel_ok hok hq1 hq2, by rw [List.length_append, hql]; simp; exact hwl, ?_, h2⟩
        simp [nL]
    · exfalso
      have he : belowN rows at_ = [] := by simpa using hb
      rw [wayR_succ ks one rows look f at_] at h2
      rw [if_pos he] at h2
      rw [← h2] at hx
      cases hx
end TG
set_option Elab.async false
set_option linter.all false
set_option maxRecDepth 100000
set_option maxHeartbeats 4000000
/-! W16: headings, the audit. -/
namespace TG
open PySem PySem.Spec PyProof.Rows L2
variable {P : Program} {w : World} {K : KF} {mg : Str → Option Value} {base : Heap}
theorem root_one {rows : List Rw} (hok : RowsOk rows) : ∀ (m : Nat) (r : Rw), r ∈ rows → r.num.length ≤ m → ∃ q ∈ rows, q.num.length = 1
  | 0, r, hr, h => absurd (List.length_eq_zero_iff.mp (Nat.le_zero.mp h)) (hok.ne r hr)
  | m + 1, r, hr, h => by
    by_cases h1 : 1 < r.num.length
    · obtain ⟨q, hq, e⟩ := List.mem_map.mp (hok.clo r hr h1)
      refine root_one hok m q hq ?_
      rw [e, List.length_dropLast]
      omega
    · have := List.length_pos_iff.mpr (hok.ne r hr)
      exact ⟨r, hr, by omega⟩
theorem root_ne {rows : List Rw} (hok : RowsOk rows) : belowN rows [] ≠ [] := by
  have hp := hok.pos
  obtain ⟨r, hr⟩ : ∃ r, r ∈ rows := by
    cases rows with
    | nil => simp at hp
    | cons r l => exact ⟨r, List.mem_cons_self ..⟩
  obtain ⟨q, hq, h1⟩ := root_one hok _ r hr (Nat.le_refl _)
  have : q.num ∈ belowN rows [] := belowN_mem.mpr ⟨List.mem_map.mpr ⟨q, hq, rfl⟩, by
    have : q.num.dropLast.length = 0 := by rw [List.length_dropLast]; omega
    exact List.length_eq_zero_iff.mp this⟩
  exact List.ne_nil_of_mem this
theorem way_last {ks : List Knd} {one : Bool} {rows : List Rw} {look : List Int} : ∀ (f : Nat) (at_ n : List Int), (wayR ks one rows look f at_).2 = .go n → ((wayR ks one rows look f at_).1 = [] ∧ n = at_) ∨ (wayR ks one rows look f at_).1.getLast? = some n
  | 0, at_, n, h => by cases h; exact .inl ⟨rfl, rfl⟩
  | f + 1, at_, n, h => by
    rw [wayR_succ ks one rows look f at_] at h ⊢
    by_cases hb : belowN rows at_ = []
    · rw [if_pos hb] at h ⊢
      cases h
      exact .inl ⟨rfl, rfl⟩
    · rw [if_neg hb] at h ⊢
      cases hp : pickP ks one rows at_ look with
      | no a => rw [hp] at h; cases h
      | two a b c => rw [hp] at h; cases h
      | go q =>
        rw [hp] at h
        refine .inr ?_
        show (q :: (wayR ks one rows look f q).1).getLast? = some n
        rcases way_last f q n h with ⟨e, rfl⟩ | e
        · rw [e]; rfl
        · cases q2 : (wayR ks one rows look f q).1 with
          | nil => rw [q2] at e; cases e
          | cons x l => rw [q2] at e; rw [List.getLast?_cons_cons]; exact e
theorem way_end {ks : List Knd} {one : Bool} {rows : List Rw} {look n : List Int} (hok : RowsOk rows) (h : (wayR ks one rows look 5 []).2 = .go n) : (wayR ks one rows look 5 []).1.getLast? = some n := by
  rcases way_last 5 [] n h with ⟨e, rfl⟩ | e
  · exfalso
    rw [wayR_succ ks one rows look 4 []] at h e
    rw [if_neg (root_ne hok)] at h e
    cases hp : pickP ks one rows [] look with
    | no a => rw [hp] at h; cases h
    | two a b c => rw [hp] at h; cases h
    | go q => rw [hp] at e; cases e
  · exact e
theorem neg1 {Γ : Cxt} : EvS (tUn (rU fun i => .int (-i)) (tC (.int 1))) Γ (dI (-1)) := fun B H σ Q g q => ⟨1, rfl, q _ B H (.rfl g.ex) (RpK.int _) (.no rfl)⟩
theorem atI_last {l : List PyData} {d : PyData} (h : l.getLast? = some d) : atI l (-1) = some d := by
  have hne : l ≠ [] := fun e => by rw [e] at h; cases h
  have hp := List.length_pos_iff.mpr hne
  unfold atI ixN
  rw [List.getLast?_eq_getElem?] at h
  have : (if (-1 : Int) < 0 then (-1 : Int) + (l.length : Int) else -1) = ((l.length - 1 : Nat) : Int) := by
    rw [if_pos (by decide)]; omega
  simp only [show ¬ (0 : Int) ≤ -1 by decide, if_false]
  rw [if_pos (by omega)]
  have e : ((-1 : Int) + (l.length : Int)).toNat = l.length - 1 := by omega
  first
    | (rw [e]; exact h)
    | (simp only [e]; exact h)
    | (show l[_]? = some d; rw [← h]; congr 1; omega)
theorem ev_last {Γ : Cxt} {te : TE} {l : List (List Int)} {n : List Int} (h : EvS te Γ (dL (nL l))) (hl : l.getLast? = some n) : EvS (tOp (rIxL K) te (tUn (rU fun i => .int (-i)) (tC (.int 1)))) Γ (.d (encN n)) :=
  ev_ixL h neg1 (atI_last (by unfold nL; rw [List.getLast?_map, hl]; rfl))
/-- xs.append(e), e raises -/
theorem wx_dropM {K : KF} {Γ : Cxt} {tr : TA} {B0 H0 : Hp} {E' : DE} {W : XK} {xc : Xc} {i : Nat} {xs : List PyData} {κ : TK} (h : Γ[i]? = some (some (.own xs κ))) (ha : EvAX W tr Γ xc) (k : ∀ cls d B H, Step B0 H0 B H → XcR H0 B H xc cls d → W cls d H) : WS B0 H0 (tDrop (tBM K "list" rAppend (tVar i) tr)) Γ E' := fun B H σ D g _ _ _ _ => by
  obtain ⟨a, vs, h1, h2, h3, h4⟩ := own_get g.g h
  exact ⟨.ref a, h1, Or.inl ⟨rfl, vs, SqL.of h3⟩, ha B H σ _ g.g fun cls d B' H' st r => k cls d B' H' (g.st.trans st) (r.back g.st.hh)⟩
def headR (ks : List Knd) (one : Bool) (rows : List Rw) (look : List Int) : PR := (wayR ks one rows look 5 []).2
theorem look_len (ws : List Int) : (lookOf ws).length = ws.length := by simp [lookOf]
theorem ok_headingof (T : Txt K mg) : FnOk P w K mg base (L2.CX P w) 11 692 (fdOf K 692) ["tree", "parts"] (spD (fun ss s => ∃ (ks : List Knd) (one : Bool) (rows : List Rw) (l : List Prt) (n : List Int), ss = [.ab (TreeP ks one rows), dL (pL l)] ∧ KsOk ks ∧ RowsOk rows ∧ goodL ks l ∧ 1 ≤ l.length ∧ l.length ≤ 40 ∧ (wgt ks l).sum ≤ 1000000000000000 ∧ headR ks one rows (lookOf (wgt ks l)) = .go n ∧ s = .d (encN n))
    (fun ss x => ∃ (ks : List Knd) (one : Bool) (rows : List Rw) (d : PyData), ss = [.ab (TreeP ks one rows), .d d] ∧ KsOk ks ∧ RowsOk rows ∧ ((BadParts ks d ∧ x = ⟨56, none⟩) ∨ ∃ l : List Prt, d = .list (pL l) ∧ goodL ks l ∧ 1 ≤ l.length ∧ l.length ≤ 40 ∧ (wgt ks l).sum ≤ 1000000000000000 ∧ xcOf ks (lookOf (wgt ks l)) (headR ks one rows (lookOf (wgt ks l))) = some x))) := by
  refine Fun.okDX (f_headingof T) sc_headingof (fun ss s ⟨_, _, _, _, _, h, _⟩ => by rw [h]; rfl) (fun ss x ⟨_, _, _, _, h, _⟩ => by rw [h]; rfl) (fun cdv A outer h H E hr ss s ⟨ks, one, rows, l, n, hs, hk, hok, hg, h1, h4, hsum, hh, hv⟩ => ?_) (fun cdv A outer h H E hr ss x ⟨ks, one, rows, d, hs, hk, hok, hx⟩ => ?_)
  · subst hs hv
    have hkl := hk.le
    refine ⟨_, (pss_cons (ps_set (i := 2) sc_headingof.nd rfl (Or.inl rfl) (pe_call (ok_lookof T) (hr.mono (by decide)) rfl (g_lookof T) (f_lookof T).kp (b_lookof T) .nil pass0 (pa_cons (pe_call (ok_folded T) (hr.mono (by decide)) rfl (g_folded T) (f_folded T).kp (b_folded T) .nil (passes_call (takes_of rfl rfl rfl rfl) fun _ _ _ _ h => h) (pa_cons (pe_meth0 (pv 0) (c_Tree T) (m_Tree_kinds T) (ok_Treekinds T) (hr.mono (by decide)) (b_Treekinds T) .nil pass0) (pa_cons (pv 1) pa_nil))) pa_nil)))
      (pss_one (ps_ret (pe_ix ix_list (pe_call (ok_wayof T) (hr.mono (by decide)) rfl (g_wayof T) (f_wayof T).kp (b_wayof T) .nil (passes_call (takes_of rfl rfl rfl rfl) fun _ _ _ _ h => h) (pa_cons (pv 0) (pa_cons (pv 2) pa_nil))) (pe_un un_neg pe_int) (fun _ _ => rfl))))), fun B0 H0 => ?_⟩
    have kinds : EvS (tMeth 662 "kinds" (spD (fun ss s => ∃ ks rows, ss = [.ab (Tree0 ks rows)] ∧ s = .own (ksL ks)) noX) [] E0 (tVar 0) tNil) (stG N_headingof [.ab (TreeP ks one rows), dL (pL l)]) (dL (ksL ks)) := ev_fz (ev_meth (ev_abI (ev_var rfl) fun _ _ => TreeP.t0) (rc_tree ks rows "kinds") ea_nil ⟨ks, rows, rfl, rfl⟩)
    refine ws_seq (ws_asg (ev_call (ea_cons (ev_fz (ev_call (ea_cons kinds (ea_cons (ev_var rfl) ea_nil)) ⟨ks, l, rfl, hk, hg, h1, h4, hsum, rfl⟩)) ea_nil) ⟨.pl, wgt ks l, .inl rfl, by rw [wgt_len]; omega, rfl⟩) ?_)
    exact ws_ret (ev_last (ev_fz (ev_call (ea_cons (ev_var rfl) (ea_cons (ev_var rfl) ea_nil)) ⟨.fz, ks, one, rows, lookOf (wgt ks l), n, rfl, hk, hok, by rw [look_len, wgt_len], hh, rfl⟩)) (way_end hok hh)) rfl
  · subst hs
    have hkl := hk.le
    refine ⟨_, (pss_cons (ps_set (i := 2) sc_headingof.nd rfl (Or.inl rfl) (pe_call (ok_lookof T) (hr.mono (by decide)) rfl (g_lookof T) (f_lookof T).kp (b_lookof T) .nil pass0 (pa_cons (pe_call (ok_folded T) (hr.mono (by decide)) rfl (g_folded T) (f_folded T).kp (b_folded T) .nil (passes_call (takes_of rfl rfl rfl rfl) fun _ _ _ _ h => h) (pa_cons (pe_meth0 (pv 0) (c_Tree T) (m_Tree_kinds T) (ok_Treekinds T) (hr.mono (by decide)) (b_Treekinds T) .nil pass0) (pa_cons (pv 1) pa_nil))) pa_nil)))
      (pss_one (ps_ret (pe_ix ix_list (pe_call (ok_wayof T) (hr.mono (by decide)) rfl (g_wayof T) (f_wayof T).kp (b_wayof T) .nil (passes_call (takes_of rfl rfl rfl rfl) fun _ _ _ _ h => h) (pa_cons (pv 0) (pa_cons (pv 2) pa_nil))) (pe_un un_neg pe_int) (fun _ _ => rfl))))), fun B0 H0 hE => ?_⟩
    have kinds : EvS (tMeth 662 "kinds" (spD (fun ss s => ∃ ks rows, ss = [.ab (Tree0 ks rows)] ∧ s = .own (ksL ks)) noX) [] E0 (tVar 0) tNil) (stG N_headingof [.ab (TreeP ks one rows), .d d]) (dL (ksL ks)) := ev_fz (ev_meth (ev_abI (ev_var rfl) fun _ _ => TreeP.t0) (rc_tree ks rows "kinds") ea_nil ⟨ks, rows, rfl, rfl⟩)
    rcases hx with ⟨hb, rfl⟩ | ⟨l, rfl, hg, h1, h4, hsum, hx⟩
    · exact ws_seq (wx_asg (W := E) (ex_callA (E := E) (xa_head (ex_call (E := E) (ea_cons kinds (ea_cons (ev_var rfl) ea_nil)) ⟨ks, d, rfl, hk, hb, rfl⟩))) fun cls d B H st xr => hE cls d B H st xr)
    · refine ws_seq (ws_asg (ev_call (ea_cons (ev_fz (ev_call (ea_cons kinds (ea_cons (ev_var rfl) ea_nil)) ⟨ks, l, rfl, hk, hg, h1, h4, hsum, rfl⟩)) ea_nil) ⟨.pl, wgt ks l, .inl rfl, by rw [wgt_len]; omega, rfl⟩) ?_)
      exact wx_ret (W := E) (ex_opL (ex_call (E := E) (ea_cons (ev_var rfl) (ea_cons (ev_var rfl) ea_nil)) ⟨.fz, ks, one, rows, lookOf (wgt ks l), rfl, hk, hok, by rw [look_len, wgt_len], hx⟩)) fun cls d B H st xr => hE cls d B H st xr
def audE (l n : List Int) : PyData := .tuple [encN l, encN n]
def goN : PR → List Int
  | .go n => n
  | _ => []
def audL (ks : List Knd) (one : Bool) (rows : List Rw) (ls : List (List Int)) : List PyData := ls.map fun l => audE l (goN (headR ks one rows l))
theorem ok_auditof (T : Txt K mg) : FnOk P w K mg base (L2.CX P w) 11 699 (fdOf K 699) ["tree"] (spD (fun ss s => ∃ (ks : List Knd) (one : Bool) (rows : List Rw), ss = [.ab (TreeP ks one rows)] ∧ KsOk ks ∧ RowsOk rows ∧ (∀ l ∈ allLooks ks.length, ∃ n, headR ks one rows l = .go n) ∧ s = .own (audL ks one rows (allLooks ks.length)) .an)
    (fun ss x => ∃ (ks : List Knd) (one : Bool) (rows : List Rw) (j : Nat) (l : List Int), ss = [.ab (TreeP ks one rows)] ∧ KsOk ks ∧ RowsOk rows ∧ (allLooks ks.length)[j]? = some l ∧ (∀ i < j, ∀ l, (allLooks ks.length)[i]? = some l → ∃ n, headR ks one rows l = .go n) ∧ xcOf ks l (headR ks one rows l) = some x)) := by
  have nLg : ∀ {ls : List (List Int)} {i : Nat} {x : PyData}, (nL ls)[i]? = some x → ∃ l, ls[i]? = some l ∧ encN l = x := fun {ls i x} h => by
    unfold nL at h
    rw [List.getElem?_map] at h
    cases q : ls[i]? with
    | none => rw [q] at h; cases h
    | some y => rw [q] at h; exact ⟨y, rfl, Option.some.inj h⟩
  refine Fun.okDX (f_auditof T) sc_auditof (fun ss s ⟨_, _, _, h, _⟩ => by rw [h]; rfl) (fun ss x ⟨_, _, _, _, _, h, _⟩ => by rw [h]; rfl) (fun cdv A outer h H E hr ss s ⟨ks, one, rows, hs, hk, hok, hall, hv⟩ => ?_) (fun cdv A outer h H E hr ss x ⟨ks, one, rows, j, l, hs, hk, hok, hj, hpre, hx⟩ => ?_)
  · subst hs hv
    have hkl := hk.le
    have hsz := allLooks_size hk.le
    refine ⟨_, (pss_cons (ps_set (i := 1) sc_auditof.nd rfl (Or.inl rfl) (pe_lst pa_nil))
      (pss_cons (ps_for (passes_of rfl) rfl (pi_list (pe_call (ok_alllooks T) (hr.mono (by decide)) rfl (g_alllooks T) (f_alllooks T).kp (b_alllooks T) .nil pass0 (pa_cons (pe_callB call_len rfl (z_len T) PySem.boot_len (pa_cons (pe_meth0 (pv 0) (c_Tree T) (m_Tree_kinds T) (ok_Treekinds T) (hr.mono (by decide)) (b_Treekinds T) .nil pass0) pa_nil)) pa_nil))) (pg_name (i := 2) sc_auditof.nd rfl (Or.inl rfl))
      (pss_one (ps_expr (pe_bm PySem.F.plainAttrs_list PySem.F.slot_list_append PySem.F.type_list_append mt_append (pv 1) (pa_cons (pe_tup (pa_cons (pv 2) (pa_cons (pe_ix ix_list (pe_call (ok_wayof T) (hr.mono (by decide)) rfl (g_wayof T) (f_wayof T).kp (b_wayof T) .nil (passes_call (takes_of rfl rfl rfl rfl) fun _ _ _ _ h => h) (pa_cons (pv 0) (pa_cons (pv 2) pa_nil))) (pe_un un_neg pe_int) (fun _ _ => rfl)) pa_nil))) pa_nil)))))
      (pss_one (ps_ret (pv 1))))), fun B0 H0 => ?_⟩
    refine ws_seq (ws_asg (ev_lst (ds := []) (κ := .an) ea_nil (Nat.zero_le _)) ?_)
    refine ws_seq (ws_forL (κ := .fz) (ds := nL (allLooks ks.length)) (f := fun x Γ => Γ.set 2 (some (.d x .fz))) (ev_fz (ev_call (ea_cons ((ev_lenL (ds := ksL ks) (ev_fz (ev_meth (ev_abI (ev_var rfl) fun _ _ => TreeP.t0) (rc_tree ks rows "kinds") ea_nil ⟨ks, rows, rfl, rfl⟩))).is (by rw [ksL_len])) ea_nil) ⟨ks.length, rfl, hk.pos, hk.le, rfl⟩)) (fun x _ => tg_name) (fun i Γ' => ∃ a, Γ' = [some (.ab (TreeP ks one rows)), some (.own (audL ks one rows ((allLooks ks.length).take i)) .an), a]) ⟨none, rfl⟩ ?_ ?_)
    · rintro i x Γ' hx ⟨a, rfl⟩
      obtain ⟨l, hl, rfl⟩ := nLg hx
      have hm := List.mem_of_getElem? hl
      obtain ⟨n, hn⟩ := hall l hm
      have hil := (List.getElem?_eq_some_iff.mp hl).1
      refine ws_app (κ := .an) rfl (ev_tup (κ := .an) (ds := [encN l, encN n]) (ea_cons (ev_any (ev_var (s := .d (encN l) .fz) rfl)) (ea_cons (ev_any (ev_last (ev_fz (ev_call (ea_cons (ev_var rfl) (ea_cons (ev_var (s := .d (encN l) .fz) rfl) ea_nil)) ⟨.fz, ks, one, rows, l, n, rfl, hk, hok, allLooks_len hm, hn, rfl⟩)) (way_end hok hn))) ea_nil)) (by simp)) ?_ ⟨some (.d (encN l) .fz), ?_⟩
      · have := List.length_take_le i (allLooks ks.length)
        simp only [audL, List.length_map]
        omega
      · rw [List.take_add_one, hl]
        simp only [Option.toList_some, audL, List.map_append, List.map_cons, List.map_nil, hn, goN, audE]
        rfl
    · rintro Γ' ⟨a, rfl⟩
      rw [nL_len, List.take_length]
      exact ws_retOwn rfl rfl
  · subst hs
    have hkl := hk.le
    have hsz := allLooks_size hk.le
    have hjl := (List.getElem?_eq_some_iff.mp hj).1
    refine ⟨_, (pss_cons (ps_set (i := 1) sc_auditof.nd rfl (Or.inl rfl) (pe_lst pa_nil))
      (pss_cons (ps_for (passes_of rfl) rfl (pi_list (pe_call (ok_alllooks T) (hr.mono (by decide)) rfl (g_alllooks T) (f_alllooks T).kp (b_alllooks T) .nil pass0 (pa_cons (pe_callB call_len rfl (z_len T) PySem.boot_len (pa_cons (pe_meth0 (pv 0) (c_Tree T) (m_Tree_kinds T) (ok_Treekinds T) (hr.mono (by decide)) (b_Treekinds T) .nil pass0) pa_nil)) pa_nil))) (pg_name (i := 2) sc_auditof.nd rfl (Or.inl rfl))
      (pss_one (ps_expr (pe_bm PySem.F.plainAttrs_list PySem.F.slot_list_append PySem.F.type_list_append mt_append (pv 1) (pa_cons (pe_tup (pa_cons (pv 2) (pa_cons (pe_ix ix_list (pe_call (ok_wayof T) (hr.mono (by decide)) rfl (g_wayof T) (f_wayof T).kp (b_wayof T) .nil (passes_call (takes_of rfl rfl rfl rfl) fun _ _ _ _ h => h) (pa_cons (pv 0) (pa_cons (pv 2) pa_nil))) (pe_un un_neg pe_int) (fun _ _ => rfl)) pa_nil))) pa_nil)))))
      (pss_one (ps_ret (pv 1))))), fun B0 H0 hE => ?_⟩
    refine ws_seq (ws_asg (ev_lst (ds := []) (κ := .an) ea_nil (Nat.zero_le _)) ?_)
    refine ws_seq (ws_forL (κ := .fz) (ds := nL (allLooks ks.length)) (f := fun x Γ => Γ.set 2 (some (.d x .fz))) (ev_fz (ev_call (ea_cons ((ev_lenL (ds := ksL ks) (ev_fz (ev_meth (ev_abI (ev_var rfl) fun _ _ => TreeP.t0) (rc_tree ks rows "kinds") ea_nil ⟨ks, rows, rfl, rfl⟩))).is (by rw [ksL_len])) ea_nil) ⟨ks.length, rfl, hk.pos, hk.le, rfl⟩)) (fun x _ => tg_name) (fun i Γ' => i ≤ j ∧ ∃ a, Γ' = [some (.ab (TreeP ks one rows)), some (.own (audL ks one rows ((allLooks ks.length).take i)) .an), a]) ⟨Nat.zero_le _, none, rfl⟩ ?_ ?_)
    · rintro i x Γ' hx' ⟨hi, a, rfl⟩
      obtain ⟨l', hl, rfl⟩ := nLg hx'
      have hm := List.mem_of_getElem? hl
      by_cases hij : i < j
      · obtain ⟨n, hn⟩ := hpre i hij l' hl
        refine ws_app (κ := .an) rfl (ev_tup (κ := .an) (ds := [encN l', encN n]) (ea_cons (ev_any (ev_var (s := .d (encN l') .fz) rfl)) (ea_cons (ev_any (ev_last (ev_fz (ev_call (ea_cons (ev_var rfl) (ea_cons (ev_var (s := .d (encN l') .fz) rfl) ea_nil)) ⟨.fz, ks, one, rows, l', n, rfl, hk, hok, allLooks_len hm, hn, rfl⟩)) (way_end hok hn))) ea_nil)) (by simp)) ?_ ⟨by omega, some (.d (encN l') .fz), ?_⟩
        · have := List.length_take_le i (allLooks ks.length)
          simp only [audL, List.length_map]
          omega
        · rw [List.take_add_one, hl]
          simp only [Option.toList_some, audL, List.map_append, List.map_cons, List.map_nil, hn, goN, audE]
          rfl
      · have e : i = j := by omega
        subst e
        rw [hj] at hl
        cases hl
        refine wx_dropM (W := E) rfl (xa_head (ex_tup (xa_tail (ev_var (s := .d (encN l) .fz) rfl) (xa_head (ex_opL (ex_call (E := E) (ea_cons (ev_var rfl) (ea_cons (ev_var (s := .d (encN l) .fz) rfl) ea_nil)) ⟨.fz, ks, one, rows, l, rfl, hk, hok, allLooks_len hm, hx⟩)))))) fun cls d B H st xr => hE cls d B H st xr
    · rintro Γ' ⟨hi, _⟩
      rw [nL_len] at hi
      omega
end TG
set_option Elab.async false
set_option linter.all false
set_option maxRecDepth 100000
set_option maxHeartbeats 4000000
/-! W20: the law's own judging: cells, claims, counts. -/
namespace TG
open PySem PySem.Spec PyProof.Rows L2
variable {P : Program} {w : World} {K : KF} {mg : Str → Option Value} {base : Heap}
/-! the script -/
def Scr (K : KF) (ns : List Int) : Pv := fun B v => ∃ a, v = .ref a ∧ SqL K B a (ns.map V.int)
theorem scr_up {ns : List Int} {B B' H : Hp} {v : V} (h : Ab (Scr K ns) B v) (e : Gr B H) : ∃ a, v = .ref a ∧ SqL K H a (ns.map V.int) := by
  obtain ⟨B0, e0, a, rfl, s⟩ := h
  exact ⟨a, rfl, Gr.seqL (e0.trans e) s⟩
section
variable {Γ : Cxt} {te ta : TE} {ns : List Int}
theorem ev_scrLen (h : EvS te Γ (.ab (Scr K ns))) : EvS (tCB (rLen K) (tCons te tNil)) Γ (dI ns.length) :=
  ev_cb (ea_cons h ea_nil) fun B H vs Q e r q => by
    obtain ⟨v, rfl, r1⟩ := r.one
    obtain ⟨a, rfl, s⟩ := scr_up (B' := B) r1 e
    exact ⟨_, ns.length, rfl, .inl ⟨_, s, by rw [List.length_map]⟩, q.now e (RpK.int _) rfl⟩
theorem ev_scrIx {i : Int} {d : Int} (ha : EvS te Γ (.ab (Scr K ns))) (hb : EvS ta Γ (dI i)) (h : atI ns i = some d) : EvS (tOp (rIxL K) te ta) Γ (dI d) :=
  ev_op2 ha hb rfl rfl fun B H v w Q e r1 r2 q => by
    obtain ⟨a, rfl, s⟩ := scr_up (B' := B) r1 e
    refine ⟨a, _, i, .int d, rfl, RpK.int_inv r2, s, ?_, q.now e (RpK.int _) rfl⟩
    unfold atI at h ⊢
    rw [List.length_map]
    cases q : ixN ns.length i with
    | none => rw [q] at h; cases h
    | some j => rw [q] at h; simp only [Option.bind_some, List.getElem?_map] at h ⊢; rw [h]; rfl
theorem ev_scrSl {tlo thi : TO} {lo hi : Option Int} (h : EvS te Γ (.ab (Scr K ns))) (h1 : EvO tlo Γ lo) (h2 : EvO thi Γ hi) : EvS (tSl (rSlL K) te tlo thi) Γ (.own (cutD (iL ns) lo hi)) := fun B H σ Q g q =>
  h B H σ _ g fun v B1 H1 st1 r1 _ => h1 B1 H1 σ _ (g.step st1) fun B2 H2 st2 => h2 B2 H2 σ _ (g.step (st1.trans st2)) fun B3 H3 st3 => by
    obtain ⟨a, rfl, s⟩ := scr_up (B' := B1) r1 (st2.bb.trans (st3.bb.trans st3.bh))
    have st := (st1.trans st2).trans st3
    exact ⟨a, _, rfl, s, fun p hp => q _ B3 _ (st.trans (Step.newH st3.bh hp)) ⟨p, _, rfl, st3.bh.free hp, upd_same, cut_rp (RpKA.of_ints ns) lo hi⟩ fun _ => ⟨p, rfl, st.hh.free hp⟩⟩
end
theorem ok_Lcellat (T : Txt K mg) : FnOk P w K mg base CX0 1 706 (fdOf K 706) ["_law_script", "_law_k"] (spD (fun ss s => ∃ (ns : List Int) (k : Nat), ss = [.ab (Scr K ns), dI (k : Int)] ∧ s = dI (ns.getD k 0)) noX) := by
  refine Fun.okD (f_Lcellat T) sc_Lcellat (fun ss s ⟨_, _, h, _⟩ => by rw [h]; rfl) fun cdv A outer h H E hr ss s ⟨ns, k, hs, hv⟩ => ?_
  subst hs hv
  refine ⟨_, (pss_cons (ps_if (pt_cmpR op_lt (pv 1) (pe_callB call_len rfl (z_len T) PySem.boot_len (pa_cons (pv 0) pa_nil)) (nomark _)) (pss_one (ps_ret (pe_ix ix_list (pv 0) (pv 1) (fun _ _ => rfl)))) pss_nil)
      (pss_one (ps_ret pe_int))), fun B0 H0 => ?_⟩
  refine ws_seq (ws_if (et_test (ev_lt (ev_var rfl) (ev_scrLen (ns := ns) (ev_var rfl)))) (fun hb => ?_) fun hb => ws_next ?_)
  · have hk : k < ns.length := by have := of_decide_eq_true hb; omega
    refine ws_ret (ev_scrIx (ns := ns) (d := ns.getD k 0) (ev_var rfl) (ev_var rfl) (atI_nat ?_)) rfl
    rw [List.getD_eq_getElem?_getD, List.getElem?_eq_getElem hk]; rfl
  · have hk : ¬ k < ns.length := by have := of_decide_eq_false hb; omega
    refine ws_ret ev_int ?_
    rw [List.getD_eq_getElem?_getD, List.getElem?_eq_none (by omega)]
    rfl
theorem ok_Lthere (T : Txt K mg) : FnOk P w K mg base CX0 1 725 (fdOf K 725) ["_law_kinds_here", "_law_look", "_law_side", "_law_name", "_law_least"] (spD (fun ss s => ∃ (κ : TK) (ks : List Knd) (look : List Int) (side : Bool) (name : Str) (least : Int), ss = [dL (ksL ks), .d (.tuple (iL look)) κ, dI (sideI side), dS name, dI least] ∧ look.length = ks.length ∧ ks.length ≤ 1000 ∧ s = dB (firstN ks look side name least).isSome) noX) := by
  refine Fun.okD (f_Lthere T) sc_Lthere (fun ss s ⟨_, _, _, _, _, _, h, _⟩ => by rw [h]; rfl) fun cdv A outer h H E hr ss s ⟨κ, ks, look, side, name, least, hs, hl, hk, hv⟩ => ?_
  subst hs hv
  refine ⟨_, (pss_cons (ps_for PassesOwn.never rfl (pi_range1 rfl (z_range T) (pa_cons (pe_callB call_len rfl (z_len T) PySem.boot_len (pa_cons (pv 0) pa_nil)) pa_nil)) (pg_name (i := 5) sc_Lthere.nd rfl (Or.inl rfl))
      (pss_one (ps_if (PW.pt (pw_and (pt_cmpR op_ge (pe_ix ix_tup (pv 1) (pv 5) (fun _ _ => rfl)) (pv 4) (nomark _)) (pw_and1 (pt_cmpR op_eq (pe_ix ix_tup (pe_ix ix_list (pv 0) (pv 5) (fun _ _ => rfl)) (pv 2) (fun _ _ => rfl)) (pv 3) (nomark _))))) (pss_one (ps_ret pe_bl)) pss_nil)))
      (pss_one (ps_ret pe_bl))), fun B0 H0 => ?_⟩
  obtain ⟨p, hp⟩ : ∃ p : Nat → Bool, p = fun k => decide (least ≤ look.getD k 0) && decide (nam side (ks.getD k ("", "")) = name) := ⟨_, rfl⟩
  have hfn : firstN ks look side name least = (List.range ks.length).find? p := by rw [hp]; rfl
  rw [hfn]
  refine ws_seq (ws_forR (n := ks.length) (ea_cons ((ev_lenL (ds := ksL ks) (ev_var rfl)).is (by rw [ksL_len])) ea_nil) (by omega) (fun i Γ' => (∃ o, Γ' = [some (dL (ksL ks)), some (.d (.tuple (iL look)) κ), some (dI (sideI side)), some (dS name), some (dI least), o]) ∧ ∀ j < i, p j = false) ⟨⟨none, rfl⟩, fun j h => absurd h (Nat.not_lt_zero _)⟩ ?_ ?_)
  · rintro i Γ' hi ⟨⟨o, rfl⟩, h0⟩
    refine ws_if (b := p i) ((et_and (et_test (ev_ge (look_ix (by omega) (ev_var rfl) (ev_var rfl)) (ev_var rfl))) fun _ => et_test (ev_eqS (ev_ixT (ds := [.str (ks.getD i ("", "")).1, .str (ks.getD i ("", "")).2]) (ks_ix hi (ev_var rfl) (ev_var rfl)) (ev_var rfl) (nam_get _ side)) (ev_var rfl))).is (by rw [hp])) (fun hb => ?_) fun hb => ws_next ⟨⟨_, rfl⟩, fun j hj => ?_⟩
    · refine ws_ret ev_bl ?_
      rw [find_at hi h0 hb]
      rfl
    · rcases Nat.lt_succ_iff_lt_or_eq.mp hj with hj | rfl
      · exact h0 j hj
      · exact hb
  · rintro Γ' ⟨⟨o, rfl⟩, h0⟩
    refine ws_ret ev_bl ?_
    rw [find_no h0]
    rfl
theorem rankN_in {ks : List Knd} {look : List Int} {kd : Knd} (h : kd ∈ ks) : rankN ks look kd = look.getD (ks.idxOf kd) 0 := by
  have h1 := List.idxOf_lt_length_of_mem h
  have h2 : ∀ j < ks.idxOf kd, (fun k => decide (ks.getD k ("", "") = kd)) j = false := fun j hj => by
    refine decide_eq_false fun e => ?_
    have hjl : j < ks.length := by omega
    rw [List.getD_eq_getElem?_getD, List.getElem?_eq_getElem hjl] at e
    have hb := List.not_of_lt_findIdx (p := (· == kd)) (xs := ks) (i := j) hj
    have e' : ks[j] = kd := e
    simp [e'] at hb
  have h3 : (fun k => decide (ks.getD k ("", "") = kd)) (ks.idxOf kd) = true := by
    show decide (ks.getD (ks.idxOf kd) ("", "") = kd) = true
    rw [List.getD_eq_getElem?_getD, List.getElem?_eq_getElem h1, List.getElem_idxOf h1]
    simp
  unfold rankN
  rw [find_at h1 h2 h3]
theorem rankN_out {ks : List Knd} {look : List Int} {kd : Knd} (h : kd ∉ ks) : rankN ks look kd = 0 := by
  have h2 : ∀ j < ks.length, (fun k => decide (ks.getD k ("", "") = kd)) j = false := fun j hj => by
    refine decide_eq_false fun e => h ?_
    rw [List.getD_eq_getElem?_getD, List.getElem?_eq_getElem hj] at e
    have e' : ks[j] = kd := e
    rw [← e']
    exact List.getElem_mem hj
  unfold rankN
  rw [find_no h2]
theorem ok_Lrank (T : Txt K mg) : FnOk P w K mg base CX0 1 732 (fdOf K 732) ["_law_kinds_here", "_law_look", "_law_kind"] (spD (fun ss s => ∃ (κ κ' : TK) (ks : List Knd) (look : List Int) (kd : Knd), ss = [dL (ksL ks), .d (.tuple (iL look)) κ, .d (kD kd) κ'] ∧ look.length = ks.length ∧ ks.length ≤ 1000 ∧ (∀ k ∈ ks, kOk k) ∧ kOk kd ∧ s = dI (rankN ks look kd)) noX) := by
  refine Fun.okD (f_Lrank T) sc_Lrank (fun ss s ⟨_, _, _, _, _, h, _⟩ => by rw [h]; rfl) fun cdv A outer h H E hr ss s ⟨κ, κ', ks, look, kd, hs, hl, hk, ho, hod, hv⟩ => ?_
  have hu65 := hu65_of hr
  subst hs hv
  refine ⟨_, (pss_cons (ps_if (pt_cmpR (op_inD hu65) (pv 2) (pv 0) rfl) (pss_one (ps_ret (pe_ix ix_tup (pv 1) (pe_bm PySem.F.plainAttrs_list PySem.F.slot_list_index PySem.F.type_list_index (mt_indexD hu65) (pv 0) (pa_cons (pv 2) pa_nil)) (fun _ _ => rfl)))) pss_nil)
      (pss_one (ps_ret pe_int))), fun B0 H0 => ?_⟩
  refine ws_seq (ws_if (b := decide (kd ∈ ks)) ((et_test (ev_inD (κ := κ') (κ' := .pl) (x := kD kd) (ds := ksL ks) (ev_var rfl) (ev_var rfl) ((gd_k hod).shaped (by decide)) ((gd_ks ho).shaped (by decide)))).is (by rw [any_ks])) (fun hb => ?_) fun hb => ws_next ?_)
  · have hm := of_decide_eq_true hb
    rw [rankN_in hm]
    exact ws_ret (look_ix (by rw [hl]; exact List.idxOf_lt_length_of_mem hm) (ev_var rfl) (ev_indexD (κ := .pl) (κ' := κ') (x := kD kd) (d := kD kd) (ev_var rfl) (ev_var rfl) ((gd_k hod).shaped (by decide)) ((gd_ks ho).shaped (by decide)) (idx_k hm) (by rw [eqv_k]; simp) idx_kno)) rfl
  · rw [rankN_out (of_decide_eq_false hb)]
    exact ws_ret ev_int rfl
abbrev Plc (n : Nt) : Prom := fun ss s => ∃ (κ κn : TK) (ks : List Knd) (look : List Int), ss = [.d n.enc κn, dL (ksL ks), .d (.tuple (iL look)) κ] ∧ look.length = ks.length ∧ 1 ≤ ks.length ∧ ks.length ≤ 1000 ∧ (∀ k ∈ ks, kOk k) ∧ n.ok = true ∧ s = dB (n.cl ks look)
theorem ok_Lclaims_any (T : Txt K mg) : FnOk P w K mg base CX0 2 739 (fdOf K 739) ["_law_note_here", "_law_kinds_here", "_law_look"] (spD (Plc (.any)) noX) := by
  refine Fun.okD (f_Lclaims T) sc_Lclaims (fun ss s ⟨_, _, _, _, h, _⟩ => by rw [h]; rfl) fun cdv A outer h H E hr ss s ⟨κ, κn, ks, look, hs, hl, h1, hk, ho, hn, hv⟩ => ?_
  have hu65 := hu65_of hr
  subst hs hv
  refine ⟨_, (pss_cons (ps_set (i := 3) sc_Lclaims.nd rfl (Or.inl rfl) (pe_ix ix_tup (pv 0) pe_int (fun _ _ => rfl)))
      (pss_cons (ps_if (pt_cmpR op_eq (pv 3) pe_str (nomark _)) (pss_one ps_never) pss_nil)
      (pss_cons (ps_if (pt_cmpR op_eq (pv 3) pe_str (nomark _)) (pss_one ps_never) pss_nil)
      (pss_cons (ps_if (pt_cmpR op_eq (pv 3) pe_str (nomark _)) (pss_one ps_never) pss_nil)
      (pss_cons (ps_if (pt_cmpR op_eq (pv 3) pe_str (nomark _)) (pss_one (ps_ret (pe_cmpR op_gt (pe_call (ok_Lrank T) (hr.mono (by decide)) rfl (g_Lrank T) (f_Lrank T).kp (b_Lrank T) .nil pass0 (pa_cons (pv 1) (pa_cons (pv 2) (pa_cons (pe_ix ix_tup (pv 0) pe_int (fun _ _ => rfl)) pa_nil)))) (pe_call (ok_Lrank T) (hr.mono (by decide)) rfl (g_Lrank T) (f_Lrank T).kp (b_Lrank T) .nil pass0 (pa_cons (pv 1) (pa_cons (pv 2) (pa_cons (pe_ix ix_tup (pv 0) pe_int (fun _ _ => rfl)) pa_nil)))) (nomark _)))) pss_nil)
      (pss_cons (ps_if (pt_cmpR op_eq (pv 3) pe_str (nomark _)) (pss_one (ps_ret (pe_call (ok_Lthere T) (hr.mono (by decide)) rfl (g_Lthere T) (f_Lthere T).kp (b_Lthere T) .nil pass0 (pa_cons (pv 1) (pa_cons (pv 2) (pa_cons pe_int (pa_cons (pe_ix ix_tup (pv 0) pe_int (fun _ _ => rfl)) (pa_cons pe_int pa_nil)))))))) pss_nil)
      (pss_cons (ps_if (pt_cmpR op_eq (pv 3) pe_str (nomark _)) (pss_one (ps_ret (pe_call (ok_Lthere T) (hr.mono (by decide)) rfl (g_Lthere T) (f_Lthere T).kp (b_Lthere T) .nil pass0 (pa_cons (pv 1) (pa_cons (pv 2) (pa_cons pe_int (pa_cons (pe_ix ix_tup (pv 0) pe_int (fun _ _ => rfl)) (pa_cons pe_int pa_nil)))))))) pss_nil)
      (pss_cons (ps_if (pt_cmpR op_eq (pv 3) pe_str (nomark _)) (pss_one (ps_ret (pe_call (ok_Lthere T) (hr.mono (by decide)) rfl (g_Lthere T) (f_Lthere T).kp (b_Lthere T) .nil pass0 (pa_cons (pv 1) (pa_cons (pv 2) (pa_cons pe_int (pa_cons (pe_ix ix_tup (pv 0) pe_int (fun _ _ => rfl)) (pa_cons (pe_callB (cr_maxT rfl hu65) rfl (z_max T) (by decide +kernel) (pa_cons (pv 2) pa_nil)) pa_nil)))))))) pss_nil)
      (pss_one (ps_ret pe_bl)))))))))), fun B0 H0 => ?_⟩
  refine ws_seq (ws_asg (s := dS "any") (ev_sc (ev_ixT (ds := [.str "any"]) (ev_var rfl) ev_int rfl)) ?_)
  refine ws_seq (ws_if (et_eqF (ev_var rfl) (by decide +kernel)) (fun h => by cases h) fun _ => ws_next ?_)
  refine ws_seq (ws_if (et_eqF (ev_var rfl) (by decide +kernel)) (fun h => by cases h) fun _ => ws_next ?_)
  refine ws_seq (ws_if (et_eqF (ev_var rfl) (by decide +kernel)) (fun h => by cases h) fun _ => ws_next ?_)
  refine ws_seq (ws_if (et_eqF (ev_var rfl) (by decide +kernel)) (fun h => by cases h) fun _ => ws_next ?_)
  refine ws_seq (ws_if (et_eqF (ev_var rfl) (by decide +kernel)) (fun h => by cases h) fun _ => ws_next ?_)
  refine ws_seq (ws_if (et_eqF (ev_var rfl) (by decide +kernel)) (fun h => by cases h) fun _ => ws_next ?_)
  refine ws_seq (ws_if (et_eqF (ev_var rfl) (by decide +kernel)) (fun h => by cases h) fun _ => ws_next ?_)
  exact ws_ret ev_bl rfl
theorem ok_Lclaims_made (T : Txt K mg) (n : Str) : FnOk P w K mg base CX0 2 739 (fdOf K 739) ["_law_note_here", "_law_kinds_here", "_law_look"] (spD (Plc (.made n)) noX) := by
  refine Fun.okD (f_Lclaims T) sc_Lclaims (fun ss s ⟨_, _, _, _, h, _⟩ => by rw [h]; rfl) fun cdv A outer h H E hr ss s ⟨κ, κn, ks, look, hs, hl, h1, hk, ho, hn, hv⟩ => ?_
  have hu65 := hu65_of hr
  subst hs hv
  refine ⟨_, (pss_cons (ps_set (i := 3) sc_Lclaims.nd rfl (Or.inl rfl) (pe_ix ix_tup (pv 0) pe_int (fun _ _ => rfl)))
      (pss_cons (ps_if (pt_cmpR op_eq (pv 3) pe_str (nomark _)) (pss_one ps_never) pss_nil)
      (pss_cons (ps_if (pt_cmpR op_eq (pv 3) pe_str (nomark _)) (pss_one ps_never) pss_nil)
      (pss_cons (ps_if (pt_cmpR op_eq (pv 3) pe_str (nomark _)) (pss_one ps_never) pss_nil)
      (pss_cons (ps_if (pt_cmpR op_eq (pv 3) pe_str (nomark _)) (pss_one (ps_ret (pe_cmpR op_gt (pe_call (ok_Lrank T) (hr.mono (by decide)) rfl (g_Lrank T) (f_Lrank T).kp (b_Lrank T) .nil pass0 (pa_cons (pv 1) (pa_cons (pv 2) (pa_cons (pe_ix ix_tup (pv 0) pe_int (fun _ _ => rfl)) pa_nil)))) (pe_call (ok_Lrank T) (hr.mono (by decide)) rfl (g_Lrank T) (f_Lrank T).kp (b_Lrank T) .nil pass0 (pa_cons (pv 1) (pa_cons (pv 2) (pa_cons (pe_ix ix_tup (pv 0) pe_int (fun _ _ => rfl)) pa_nil)))) (nomark _)))) pss_nil)
      (pss_cons (ps_if (pt_cmpR op_eq (pv 3) pe_str (nomark _)) (pss_one (ps_ret (pe_call (ok_Lthere T) (hr.mono (by decide)) rfl (g_Lthere T) (f_Lthere T).kp (b_Lthere T) .nil pass0 (pa_cons (pv 1) (pa_cons (pv 2) (pa_cons pe_int (pa_cons (pe_ix ix_tup (pv 0) pe_int (fun _ _ => rfl)) (pa_cons pe_int pa_nil)))))))) pss_nil)
      (pss_cons (ps_if (pt_cmpR op_eq (pv 3) pe_str (nomark _)) (pss_one (ps_ret (pe_call (ok_Lthere T) (hr.mono (by decide)) rfl (g_Lthere T) (f_Lthere T).kp (b_Lthere T) .nil pass0 (pa_cons (pv 1) (pa_cons (pv 2) (pa_cons pe_int (pa_cons (pe_ix ix_tup (pv 0) pe_int (fun _ _ => rfl)) (pa_cons pe_int pa_nil)))))))) pss_nil)
      (pss_cons (ps_if (pt_cmpR op_eq (pv 3) pe_str (nomark _)) (pss_one (ps_ret (pe_call (ok_Lthere T) (hr.mono (by decide)) rfl (g_Lthere T) (f_Lthere T).kp (b_Lthere T) .nil pass0 (pa_cons (pv 1) (pa_cons (pv 2) (pa_cons pe_int (pa_cons (pe_ix ix_tup (pv 0) pe_int (fun _ _ => rfl)) (pa_cons (pe_callB (cr_maxT rfl hu65) rfl (z_max T) (by decide +kernel) (pa_cons (pv 2) pa_nil)) pa_nil)))))))) pss_nil)
      (pss_one (ps_ret pe_bl)))))))))), fun B0 H0 => ?_⟩
  refine ws_seq (ws_asg (s := dS "made") (ev_sc (ev_ixT (ds := [.str "made", .str n]) (ev_var rfl) ev_int rfl)) ?_)
  refine ws_seq (ws_if (et_eqF (ev_var rfl) (by decide +kernel)) (fun h => by cases h) fun _ => ws_next ?_)
  refine ws_seq (ws_if (et_eqF (ev_var rfl) (by decide +kernel)) (fun h => by cases h) fun _ => ws_next ?_)
  refine ws_seq (ws_if (et_eqF (ev_var rfl) (by decide +kernel)) (fun h => by cases h) fun _ => ws_next ?_)
  refine ws_seq (ws_if (et_eqF (ev_var rfl) (by decide +kernel)) (fun h => by cases h) fun _ => ws_next ?_)
  exact ws_seq (ws_if (et_eqT (ev_var rfl) rfl) (fun _ => ws_ret (ev_call (ea_cons (ev_var rfl) (ea_cons (ev_var rfl) (ea_cons ev_int (ea_cons (ev_sc (ev_ixT (ds := [.str "made", .str n]) (d := .str n) (ev_var rfl) ev_int rfl)) (ea_cons ev_int ea_nil))))) ⟨κ, ks, look, false, n, 1, rfl, hl, hk, rfl⟩) rfl) fun h => by cases h)
theorem ok_Lclaims_used (T : Txt K mg) (n : Str) : FnOk P w K mg base CX0 2 739 (fdOf K 739) ["_law_note_here", "_law_kinds_here", "_law_look"] (spD (Plc (.used n)) noX) := by
  refine Fun.okD (f_Lclaims T) sc_Lclaims (fun ss s ⟨_, _, _, _, h, _⟩ => by rw [h]; rfl) fun cdv A outer h H E hr ss s ⟨κ, κn, ks, look, hs, hl, h1, hk, ho, hn, hv⟩ => ?_
  have hu65 := hu65_of hr
  subst hs hv
  refine ⟨_, (pss_cons (ps_set (i := 3) sc_Lclaims.nd rfl (Or.inl rfl) (pe_ix ix_tup (pv 0) pe_int (fun _ _ => rfl)))
      (pss_cons (ps_if (pt_cmpR op_eq (pv 3) pe_str (nomark _)) (pss_one ps_never) pss_nil)
      (pss_cons (ps_if (pt_cmpR op_eq (pv 3) pe_str (nomark _)) (pss_one ps_never) pss_nil)
      (pss_cons (ps_if (pt_cmpR op_eq (pv 3) pe_str (nomark _)) (pss_one ps_never) pss_nil)
      (pss_cons (ps_if (pt_cmpR op_eq (pv 3) pe_str (nomark _)) (pss_one (ps_ret (pe_cmpR op_gt (pe_call (ok_Lrank T) (hr.mono (by decide)) rfl (g_Lrank T) (f_Lrank T).kp (b_Lrank T) .nil pass0 (pa_cons (pv 1) (pa_cons (pv 2) (pa_cons (pe_ix ix_tup (pv 0) pe_int (fun _ _ => rfl)) pa_nil)))) (pe_call (ok_Lrank T) (hr.mono (by decide)) rfl (g_Lrank T) (f_Lrank T).kp (b_Lrank T) .nil pass0 (pa_cons (pv 1) (pa_cons (pv 2) (pa_cons (pe_ix ix_tup (pv 0) pe_int (fun _ _ => rfl)) pa_nil)))) (nomark _)))) pss_nil)
      (pss_cons (ps_if (pt_cmpR op_eq (pv 3) pe_str (nomark _)) (pss_one (ps_ret (pe_call (ok_Lthere T) (hr.mono (by decide)) rfl (g_Lthere T) (f_Lthere T).kp (b_Lthere T) .nil pass0 (pa_cons (pv 1) (pa_cons (pv 2) (pa_cons pe_int (pa_cons (pe_ix ix_tup (pv 0) pe_int (fun _ _ => rfl)) (pa_cons pe_int pa_nil)))))))) pss_nil)
      (pss_cons (ps_if (pt_cmpR op_eq (pv 3) pe_str (nomark _)) (pss_one (ps_ret (pe_call (ok_Lthere T) (hr.mono (by decide)) rfl (g_Lthere T) (f_Lthere T).kp (b_Lthere T) .nil pass0 (pa_cons (pv 1) (pa_cons (pv 2) (pa_cons pe_int (pa_cons (pe_ix ix_tup (pv 0) pe_int (fun _ _ => rfl)) (pa_cons pe_int pa_nil)))))))) pss_nil)
      (pss_cons (ps_if (pt_cmpR op_eq (pv 3) pe_str (nomark _)) (pss_one (ps_ret (pe_call (ok_Lthere T) (hr.mono (by decide)) rfl (g_Lthere T) (f_Lthere T).kp (b_Lthere T) .nil pass0 (pa_cons (pv 1) (pa_cons (pv 2) (pa_cons pe_int (pa_cons (pe_ix ix_tup (pv 0) pe_int (fun _ _ => rfl)) (pa_cons (pe_callB (cr_maxT rfl hu65) rfl (z_max T) (by decide +kernel) (pa_cons (pv 2) pa_nil)) pa_nil)))))))) pss_nil)
      (pss_one (ps_ret pe_bl)))))))))), fun B0 H0 => ?_⟩
  refine ws_seq (ws_asg (s := dS "used") (ev_sc (ev_ixT (ds := [.str "used", .str n]) (ev_var rfl) ev_int rfl)) ?_)
  refine ws_seq (ws_if (et_eqF (ev_var rfl) (by decide +kernel)) (fun h => by cases h) fun _ => ws_next ?_)
  refine ws_seq (ws_if (et_eqF (ev_var rfl) (by decide +kernel)) (fun h => by cases h) fun _ => ws_next ?_)
  refine ws_seq (ws_if (et_eqF (ev_var rfl) (by decide +kernel)) (fun h => by cases h) fun _ => ws_next ?_)
  refine ws_seq (ws_if (et_eqF (ev_var rfl) (by decide +kernel)) (fun h => by cases h) fun _ => ws_next ?_)
  refine ws_seq (ws_if (et_eqF (ev_var rfl) (by decide +kernel)) (fun h => by cases h) fun _ => ws_next ?_)
  exact ws_seq (ws_if (et_eqT (ev_var rfl) rfl) (fun _ => ws_ret (ev_call (ea_cons (ev_var rfl) (ea_cons (ev_var rfl) (ea_cons ev_int (ea_cons (ev_sc (ev_ixT (ds := [.str "used", .str n]) (d := .str n) (ev_var rfl) ev_int rfl)) (ea_cons ev_int ea_nil))))) ⟨κ, ks, look, true, n, 1, rfl, hl, hk, rfl⟩) rfl) fun h => by cases h)
theorem ok_Lclaims_chief (T : Txt K mg) (n : Str) : FnOk P w K mg base CX0 2 739 (fdOf K 739) ["_law_note_here", "_law_kinds_here", "_law_look"] (spD (Plc (.chief n)) noX) := by
  refine Fun.okD (f_Lclaims T) sc_Lclaims (fun ss s ⟨_, _, _, _, h, _⟩ => by rw [h]; rfl) fun cdv A outer h H E hr ss s ⟨κ, κn, ks, look, hs, hl, h1, hk, ho, hn, hv⟩ => ?_
  have hu65 := hu65_of hr
  subst hs hv
  refine ⟨_, (pss_cons (ps_set (i := 3) sc_Lclaims.nd rfl (Or.inl rfl) (pe_ix ix_tup (pv 0) pe_int (fun _ _ => rfl)))
      (pss_cons (ps_if (pt_cmpR op_eq (pv 3) pe_str (nomark _)) (pss_one ps_never) pss_nil)
      (pss_cons (ps_if (pt_cmpR op_eq (pv 3) pe_str (nomark _)) (pss_one ps_never) pss_nil)
      (pss_cons (ps_if (pt_cmpR op_eq (pv 3) pe_str (nomark _)) (pss_one ps_never) pss_nil)
      (pss_cons (ps_if (pt_cmpR op_eq (pv 3) pe_str (nomark _)) (pss_one (ps_ret (pe_cmpR op_gt (pe_call (ok_Lrank T) (hr.mono (by decide)) rfl (g_Lrank T) (f_Lrank T).kp (b_Lrank T) .nil pass0 (pa_cons (pv 1) (pa_cons (pv 2) (pa_cons (pe_ix ix_tup (pv 0) pe_int (fun _ _ => rfl)) pa_nil)))) (pe_call (ok_Lrank T) (hr.mono (by decide)) rfl (g_Lrank T) (f_Lrank T).kp (b_Lrank T) .nil pass0 (pa_cons (pv 1) (pa_cons (pv 2) (pa_cons (pe_ix ix_tup (pv 0) pe_int (fun _ _ => rfl)) pa_nil)))) (nomark _)))) pss_nil)
      (pss_cons (ps_if (pt_cmpR op_eq (pv 3) pe_str (nomark _)) (pss_one (ps_ret (pe_call (ok_Lthere T) (hr.mono (by decide)) rfl (g_Lthere T) (f_Lthere T).kp (b_Lthere T) .nil pass0 (pa_cons (pv 1) (pa_cons (pv 2) (pa_cons pe_int (pa_cons (pe_ix ix_tup (pv 0) pe_int (fun _ _ => rfl)) (pa_cons pe_int pa_nil)))))))) pss_nil)
      (pss_cons (ps_if (pt_cmpR op_eq (pv 3) pe_str (nomark _)) (pss_one (ps_ret (pe_call (ok_Lthere T) (hr.mono (by decide)) rfl (g_Lthere T) (f_Lthere T).kp (b_Lthere T) .nil pass0 (pa_cons (pv 1) (pa_cons (pv 2) (pa_cons pe_int (pa_cons (pe_ix ix_tup (pv 0) pe_int (fun _ _ => rfl)) (pa_cons pe_int pa_nil)))))))) pss_nil)
      (pss_cons (ps_if (pt_cmpR op_eq (pv 3) pe_str (nomark _)) (pss_one (ps_ret (pe_call (ok_Lthere T) (hr.mono (by decide)) rfl (g_Lthere T) (f_Lthere T).kp (b_Lthere T) .nil pass0 (pa_cons (pv 1) (pa_cons (pv 2) (pa_cons pe_int (pa_cons (pe_ix ix_tup (pv 0) pe_int (fun _ _ => rfl)) (pa_cons (pe_callB (cr_maxT rfl hu65) rfl (z_max T) (by decide +kernel) (pa_cons (pv 2) pa_nil)) pa_nil)))))))) pss_nil)
      (pss_one (ps_ret pe_bl)))))))))), fun B0 H0 => ?_⟩
  refine ws_seq (ws_asg (s := dS "chief") (ev_sc (ev_ixT (ds := [.str "chief", .str n]) (ev_var rfl) ev_int rfl)) ?_)
  refine ws_seq (ws_if (et_eqF (ev_var rfl) (by decide +kernel)) (fun h => by cases h) fun _ => ws_next ?_)
  refine ws_seq (ws_if (et_eqF (ev_var rfl) (by decide +kernel)) (fun h => by cases h) fun _ => ws_next ?_)
  refine ws_seq (ws_if (et_eqF (ev_var rfl) (by decide +kernel)) (fun h => by cases h) fun _ => ws_next ?_)
  refine ws_seq (ws_if (et_eqF (ev_var rfl) (by decide +kernel)) (fun h => by cases h) fun _ => ws_next ?_)
  refine ws_seq (ws_if (et_eqF (ev_var rfl) (by decide +kernel)) (fun h => by cases h) fun _ => ws_next ?_)
  refine ws_seq (ws_if (et_eqF (ev_var rfl) (by decide +kernel)) (fun h => by cases h) fun _ => ws_next ?_)
  exact ws_seq (ws_if (et_eqT (ev_var rfl) rfl) (fun _ => ws_ret (ev_call (ea_cons (ev_var rfl) (ea_cons (ev_var rfl) (ea_cons ev_int (ea_cons (ev_sc (ev_ixT (ds := [.str "chief", .str n]) (d := .str n) (ev_var rfl) ev_int rfl)) (ea_cons (maxev (by omega) (ev_var rfl)) ea_nil))))) ⟨κ, ks, look, false, n, maxL look, rfl, hl, hk, rfl⟩) rfl) fun h => by cases h)
theorem ok_Lclaims_over (T : Txt K mg) (x : Knd) (y : Knd) : FnOk P w K mg base CX0 2 739 (fdOf K 739) ["_law_note_here", "_law_kinds_here", "_law_look"] (spD (Plc (.over x y)) noX) := by
  refine Fun.okD (f_Lclaims T) sc_Lclaims (fun ss s ⟨_, _, _, _, h, _⟩ => by rw [h]; rfl) fun cdv A outer h H E hr ss s ⟨κ, κn, ks, look, hs, hl, h1, hk, ho, hn, hv⟩ => ?_
  have hu65 := hu65_of hr
  subst hs hv
  have hxy : kndB x = true ∧ kndB y = true := by simpa [Nt.ok] using hn
  refine ⟨_, (pss_cons (ps_set (i := 3) sc_Lclaims.nd rfl (Or.inl rfl) (pe_ix ix_tup (pv 0) pe_int (fun _ _ => rfl)))
      (pss_cons (ps_if (pt_cmpR op_eq (pv 3) pe_str (nomark _)) (pss_one ps_never) pss_nil)
      (pss_cons (ps_if (pt_cmpR op_eq (pv 3) pe_str (nomark _)) (pss_one ps_never) pss_nil)
      (pss_cons (ps_if (pt_cmpR op_eq (pv 3) pe_str (nomark _)) (pss_one ps_never) pss_nil)
      (pss_cons (ps_if (pt_cmpR op_eq (pv 3) pe_str (nomark _)) (pss_one (ps_ret (pe_cmpR op_gt (pe_call (ok_Lrank T) (hr.mono (by decide)) rfl (g_Lrank T) (f_Lrank T).kp (b_Lrank T) .nil pass0 (pa_cons (pv 1) (pa_cons (pv 2) (pa_cons (pe_ix ix_tup (pv 0) pe_int (fun _ _ => rfl)) pa_nil)))) (pe_call (ok_Lrank T) (hr.mono (by decide)) rfl (g_Lrank T) (f_Lrank T).kp (b_Lrank T) .nil pass0 (pa_cons (pv 1) (pa_cons (pv 2) (pa_cons (pe_ix ix_tup (pv 0) pe_int (fun _ _ => rfl)) pa_nil)))) (nomark _)))) pss_nil)
      (pss_cons (ps_if (pt_cmpR op_eq (pv 3) pe_str (nomark _)) (pss_one (ps_ret (pe_call (ok_Lthere T) (hr.mono (by decide)) rfl (g_Lthere T) (f_Lthere T).kp (b_Lthere T) .nil pass0 (pa_cons (pv 1) (pa_cons (pv 2) (pa_cons pe_int (pa_cons (pe_ix ix_tup (pv 0) pe_int (fun _ _ => rfl)) (pa_cons pe_int pa_nil)))))))) pss_nil)
      (pss_cons (ps_if (pt_cmpR op_eq (pv 3) pe_str (nomark _)) (pss_one (ps_ret (pe_call (ok_Lthere T) (hr.mono (by decide)) rfl (g_Lthere T) (f_Lthere T).kp (b_Lthere T) .nil pass0 (pa_cons (pv 1) (pa_cons (pv 2) (pa_cons pe_int (pa_cons (pe_ix ix_tup (pv 0) pe_int (fun _ _ => rfl)) (pa_cons pe_int pa_nil)))))))) pss_nil)
      (pss_cons (ps_if (pt_cmpR op_eq (pv 3) pe_str (nomark _)) (pss_one (ps_ret (pe_call (ok_Lthere T) (hr.mono (by decide)) rfl (g_Lthere T) (f_Lthere T).kp (b_Lthere T) .nil pass0 (pa_cons (pv 1) (pa_cons (pv 2) (pa_cons pe_int (pa_cons (pe_ix ix_tup (pv 0) pe_int (fun _ _ => rfl)) (pa_cons (pe_callB (cr_maxT rfl hu65) rfl (z_max T) (by decide +kernel) (pa_cons (pv 2) pa_nil)) pa_nil)))))))) pss_nil)
      (pss_one (ps_ret pe_bl)))))))))), fun B0 H0 => ?_⟩
  refine ws_seq (ws_asg (s := dS "over") (ev_sc (ev_ixT (ds := [.str "over", kD x, kD y]) (ev_var rfl) ev_int rfl)) ?_)
  refine ws_seq (ws_if (et_eqF (ev_var rfl) (by decide +kernel)) (fun h => by cases h) fun _ => ws_next ?_)
  refine ws_seq (ws_if (et_eqF (ev_var rfl) (by decide +kernel)) (fun h => by cases h) fun _ => ws_next ?_)
  refine ws_seq (ws_if (et_eqF (ev_var rfl) (by decide +kernel)) (fun h => by cases h) fun _ => ws_next ?_)
  exact ws_seq (ws_if (et_eqT (ev_var rfl) rfl) (fun _ => ws_ret (ev_gt (ev_call (ea_cons (ev_var rfl) (ea_cons (ev_var rfl) (ea_cons (ev_ixT (ds := [.str "over", kD x, kD y]) (d := kD x) (ev_var rfl) ev_int rfl) ea_nil))) ⟨κ, κn, ks, look, x, rfl, hl, hk, ho, ok_knd hxy.1, rfl⟩) (ev_call (ea_cons (ev_var rfl) (ea_cons (ev_var rfl) (ea_cons (ev_ixT (ds := [.str "over", kD x, kD y]) (d := kD y) (ev_var rfl) ev_int rfl) ea_nil))) ⟨κ, κn, ks, look, y, rfl, hl, hk, ho, ok_knd hxy.2, rfl⟩)) rfl) fun h => by cases h)
theorem ok_Lclaims_both (T : Txt K mg) (x y : Nt) {i j k : Nat} (hi : i ≤ k) (hj : j ≤ k) (h3 : 1 ≤ k) (Fx : FnOk P w K mg base CX0 i 739 (fdOf K 739) ["_law_note_here", "_law_kinds_here", "_law_look"] (spD (Plc x) noX)) (Fy : FnOk P w K mg base CX0 j 739 (fdOf K 739) ["_law_note_here", "_law_kinds_here", "_law_look"] (spD (Plc y) noX)) :
    FnOk P w K mg base CX0 (k + 1) 739 (fdOf K 739) ["_law_note_here", "_law_kinds_here", "_law_look"] (spD (Plc (.both x y)) noX) := by
  refine Fun.okD (f_Lclaims T) sc_Lclaims (fun ss s ⟨_, _, _, _, h, _⟩ => by rw [h]; rfl) fun cdv A outer h H E hr ss s ⟨κ, κn, ks, look, hs, hl, h1, hk, ho, hn, hv⟩ => ?_
  have hu65 := hu65_of hr
  subst hs hv
  replace hr : Room k _ := hr
  have hxy : x.ok = true ∧ y.ok = true := by simpa [Nt.ok] using hn
  refine ⟨_, (pss_cons (ps_set (i := 3) sc_Lclaims.nd rfl (Or.inl rfl) (pe_ix ix_tup (pv 0) pe_int (fun _ _ => rfl)))
      (pss_cons (ps_if (pt_cmpR op_eq (pv 3) pe_str (nomark _)) (pss_one (ps_ret (pe_and (pe_call Fx (hr.mono (by omega)) rfl (g_Lclaims T) (f_Lclaims T).kp (b_Lclaims T) .nil pass0 (pa_cons (pe_ix ix_tup (pv 0) pe_int (fun _ _ => rfl)) (pa_cons (pv 1) (pa_cons (pv 2) pa_nil)))) (pe_one (pe_call Fy (hr.mono (by omega)) rfl (g_Lclaims T) (f_Lclaims T).kp (b_Lclaims T) .nil pass0 (pa_cons (pe_ix ix_tup (pv 0) pe_int (fun _ _ => rfl)) (pa_cons (pv 1) (pa_cons (pv 2) pa_nil)))))))) pss_nil)
      (pss_cons (ps_if (pt_cmpR op_eq (pv 3) pe_str (nomark _)) (pss_one ps_never) pss_nil)
      (pss_cons (ps_if (pt_cmpR op_eq (pv 3) pe_str (nomark _)) (pss_one ps_never) pss_nil)
      (pss_cons (ps_if (pt_cmpR op_eq (pv 3) pe_str (nomark _)) (pss_one (ps_ret (pe_cmpR op_gt (pe_call (ok_Lrank T) (hr.mono (by omega)) rfl (g_Lrank T) (f_Lrank T).kp (b_Lrank T) .nil pass0 (pa_cons (pv 1) (pa_cons (pv 2) (pa_cons (pe_ix ix_tup (pv 0) pe_int (fun _ _ => rfl)) pa_nil)))) (pe_call (ok_Lrank T) (hr.mono (by omega)) rfl (g_Lrank T) (f_Lrank T).kp (b_Lrank T) .nil pass0 (pa_cons (pv 1) (pa_cons (pv 2) (pa_cons (pe_ix ix_tup (pv 0) pe_int (fun _ _ => rfl)) pa_nil)))) (nomark _)))) pss_nil)
      (pss_cons (ps_if (pt_cmpR op_eq (pv 3) pe_str (nomark _)) (pss_one (ps_ret (pe_call (ok_Lthere T) (hr.mono (by omega)) rfl (g_Lthere T) (f_Lthere T).kp (b_Lthere T) .nil pass0 (pa_cons (pv 1) (pa_cons (pv 2) (pa_cons pe_int (pa_cons (pe_ix ix_tup (pv 0) pe_int (fun _ _ => rfl)) (pa_cons pe_int pa_nil)))))))) pss_nil)
      (pss_cons (ps_if (pt_cmpR op_eq (pv 3) pe_str (nomark _)) (pss_one (ps_ret (pe_call (ok_Lthere T) (hr.mono (by omega)) rfl (g_Lthere T) (f_Lthere T).kp (b_Lthere T) .nil pass0 (pa_cons (pv 1) (pa_cons (pv 2) (pa_cons pe_int (pa_cons (pe_ix ix_tup (pv 0) pe_int (fun _ _ => rfl)) (pa_cons pe_int pa_nil)))))))) pss_nil)
      (pss_cons (ps_if (pt_cmpR op_eq (pv 3) pe_str (nomark _)) (pss_one (ps_ret (pe_call (ok_Lthere T) (hr.mono (by omega)) rfl (g_Lthere T) (f_Lthere T).kp (b_Lthere T) .nil pass0 (pa_cons (pv 1) (pa_cons (pv 2) (pa_cons pe_int (pa_cons (pe_ix ix_tup (pv 0) pe_int (fun _ _ => rfl)) (pa_cons (pe_callB (cr_maxT rfl hu65) rfl (z_max T) (by decide +kernel) (pa_cons (pv 2) pa_nil)) pa_nil)))))))) pss_nil)
      (pss_one (ps_ret pe_bl)))))))))), fun B0 H0 => ?_⟩
  refine ws_seq (ws_asg (s := dS "both") (ev_sc (ev_ixT (ds := [.str "both", x.enc, y.enc]) (ev_var rfl) ev_int rfl)) ?_)
  exact ws_seq (ws_if (et_eqT (ev_var rfl) rfl) (fun _ => ws_ret (ev_andV (ev_call (ea_cons (ev_ixT (ds := [.str "both", x.enc, y.enc]) (d := x.enc) (ev_var rfl) ev_int rfl) (ea_cons (ev_var rfl) (ea_cons (ev_var rfl) ea_nil))) ⟨κ, κn, ks, look, rfl, hl, h1, hk, ho, hxy.1, rfl⟩) fun _ => (ev_call (ea_cons (ev_ixT (ds := [.str "both", x.enc, y.enc]) (d := y.enc) (ev_var rfl) ev_int rfl) (ea_cons (ev_var rfl) (ea_cons (ev_var rfl) ea_nil))) ⟨κ, κn, ks, look, rfl, hl, h1, hk, ho, hxy.2, rfl⟩)) rfl) fun h => by cases h)
theorem ok_Lclaims_either (T : Txt K mg) (x y : Nt) {i j k : Nat} (hi : i ≤ k) (hj : j ≤ k) (h3 : 1 ≤ k) (Fx : FnOk P w K mg base CX0 i 739 (fdOf K 739) ["_law_note_here", "_law_kinds_here", "_law_look"] (spD (Plc x) noX)) (Fy : FnOk P w K mg base CX0 j 739 (fdOf K 739) ["_law_note_here", "_law_kinds_here", "_law_look"] (spD (Plc y) noX)) :
    FnOk P w K mg base CX0 (k + 1) 739 (fdOf K 739) ["_law_note_here", "_law_kinds_here", "_law_look"] (spD (Plc (.either x y)) noX) := by
  refine Fun.okD (f_Lclaims T) sc_Lclaims (fun ss s ⟨_, _, _, _, h, _⟩ => by rw [h]; rfl) fun cdv A outer h H E hr ss s ⟨κ, κn, ks, look, hs, hl, h1, hk, ho, hn, hv⟩ => ?_
  have hu65 := hu65_of hr
  subst hs hv
  replace hr : Room k _ := hr
  have hxy : x.ok = true ∧ y.ok = true := by simpa [Nt.ok] using hn
  refine ⟨_, (pss_cons (ps_set (i := 3) sc_Lclaims.nd rfl (Or.inl rfl) (pe_ix ix_tup (pv 0) pe_int (fun _ _ => rfl)))
      (pss_cons (ps_if (pt_cmpR op_eq (pv 3) pe_str (nomark _)) (pss_one ps_never) pss_nil)
      (pss_cons (ps_if (pt_cmpR op_eq (pv 3) pe_str (nomark _)) (pss_one (ps_ret (pe_or (pe_call Fx (hr.mono (by omega)) rfl (g_Lclaims T) (f_Lclaims T).kp (b_Lclaims T) .nil pass0 (pa_cons (pe_ix ix_tup (pv 0) pe_int (fun _ _ => rfl)) (pa_cons (pv 1) (pa_cons (pv 2) pa_nil)))) (pe_one (pe_call Fy (hr.mono (by omega)) rfl (g_Lclaims T) (f_Lclaims T).kp (b_Lclaims T) .nil pass0 (pa_cons (pe_ix ix_tup (pv 0) pe_int (fun _ _ => rfl)) (pa_cons (pv 1) (pa_cons (pv 2) pa_nil)))))))) pss_nil)
      (pss_cons (ps_if (pt_cmpR op_eq (pv 3) pe_str (nomark _)) (pss_one ps_never) pss_nil)
      (pss_cons (ps_if (pt_cmpR op_eq (pv 3) pe_str (nomark _)) (pss_one (ps_ret (pe_cmpR op_gt (pe_call (ok_Lrank T) (hr.mono (by omega)) rfl (g_Lrank T) (f_Lrank T).kp (b_Lrank T) .nil pass0 (pa_cons (pv 1) (pa_cons (pv 2) (pa_cons (pe_ix ix_tup (pv 0) pe_int (fun _ _ => rfl)) pa_nil)))) (pe_call (ok_Lrank T) (hr.mono (by omega)) rfl (g_Lrank T) (f_Lrank T).kp (b_Lrank T) .nil pass0 (pa_cons (pv 1) (pa_cons (pv 2) (pa_cons (pe_ix ix_tup (pv 0) pe_int (fun _ _ => rfl)) pa_nil)))) (nomark _)))) pss_nil)
      (pss_cons (ps_if (pt_cmpR op_eq (pv 3) pe_str (nomark _)) (pss_one (ps_ret (pe_call (ok_Lthere T) (hr.mono (by omega)) rfl (g_Lthere T) (f_Lthere T).kp (b_Lthere T) .nil pass0 (pa_cons (pv 1) (pa_cons (pv 2) (pa_cons pe_int (pa_cons (pe_ix ix_tup (pv 0) pe_int (fun _ _ => rfl)) (pa_cons pe_int pa_nil)))))))) pss_nil)
      (pss_cons (ps_if (pt_cmpR op_eq (pv 3) pe_str (nomark _)) (pss_one (ps_ret (pe_call (ok_Lthere T) (hr.mono (by omega)) rfl (g_Lthere T) (f_Lthere T).kp (b_Lthere T) .nil pass0 (pa_cons (pv 1) (pa_cons (pv 2) (pa_cons pe_int (pa_cons (pe_ix ix_tup (pv 0) pe_int (fun _ _ => rfl)) (pa_cons pe_int pa_nil)))))))) pss_nil)
      (pss_cons (ps_if (pt_cmpR op_eq (pv 3) pe_str (nomark _)) (pss_one (ps_ret (pe_call (ok_Lthere T) (hr.mono (by omega)) rfl (g_Lthere T) (f_Lthere T).kp (b_Lthere T) .nil pass0 (pa_cons (pv 1) (pa_cons (pv 2) (pa_cons pe_int (pa_cons (pe_ix ix_tup (pv 0) pe_int (fun _ _ => rfl)) (pa_cons (pe_callB (cr_maxT rfl hu65) rfl (z_max T) (by decide +kernel) (pa_cons (pv 2) pa_nil)) pa_nil)))))))) pss_nil)
      (pss_one (ps_ret pe_bl)))))))))), fun B0 H0 => ?_⟩
  refine ws_seq (ws_asg (s := dS "either") (ev_sc (ev_ixT (ds := [.str "either", x.enc, y.enc]) (ev_var rfl) ev_int rfl)) ?_)
  refine ws_seq (ws_if (et_eqF (ev_var rfl) (by decide +kernel)) (fun h => by cases h) fun _ => ws_next ?_)
  exact ws_seq (ws_if (et_eqT (ev_var rfl) rfl) (fun _ => ws_ret (ev_orV (ev_call (ea_cons (ev_ixT (ds := [.str "either", x.enc, y.enc]) (d := x.enc) (ev_var rfl) ev_int rfl) (ea_cons (ev_var rfl) (ea_cons (ev_var rfl) ea_nil))) ⟨κ, κn, ks, look, rfl, hl, h1, hk, ho, hxy.1, rfl⟩) fun _ => (ev_call (ea_cons (ev_ixT (ds := [.str "either", x.enc, y.enc]) (d := y.enc) (ev_var rfl) ev_int rfl) (ea_cons (ev_var rfl) (ea_cons (ev_var rfl) ea_nil))) ⟨κ, κn, ks, look, rfl, hl, h1, hk, ho, hxy.2, rfl⟩)) rfl) fun h => by cases h)
theorem ok_Lclaims_but (T : Txt K mg) (x y : Nt) {i j k : Nat} (hi : i ≤ k) (hj : j ≤ k) (h3 : 1 ≤ k) (Fx : FnOk P w K mg base CX0 i 739 (fdOf K 739) ["_law_note_here", "_law_kinds_here", "_law_look"] (spD (Plc x) noX)) (Fy : FnOk P w K mg base CX0 j 739 (fdOf K 739) ["_law_note_here", "_law_kinds_here", "_law_look"] (spD (Plc y) noX)) :
    FnOk P w K mg base CX0 (k + 1) 739 (fdOf K 739) ["_law_note_here", "_law_kinds_here", "_law_look"] (spD (Plc (.but x y)) noX) := by
  refine Fun.okD (f_Lclaims T) sc_Lclaims (fun ss s ⟨_, _, _, _, h, _⟩ => by rw [h]; rfl) fun cdv A outer h H E hr ss s ⟨κ, κn, ks, look, hs, hl, h1, hk, ho, hn, hv⟩ => ?_
  have hu65 := hu65_of hr
  subst hs hv
  replace hr : Room k _ := hr
  have hxy : x.ok = true ∧ y.ok = true := by simpa [Nt.ok] using hn
  refine ⟨_, (pss_cons (ps_set (i := 3) sc_Lclaims.nd rfl (Or.inl rfl) (pe_ix ix_tup (pv 0) pe_int (fun _ _ => rfl)))
      (pss_cons (ps_if (pt_cmpR op_eq (pv 3) pe_str (nomark _)) (pss_one ps_never) pss_nil)
      (pss_cons (ps_if (pt_cmpR op_eq (pv 3) pe_str (nomark _)) (pss_one ps_never) pss_nil)
      (pss_cons (ps_if (pt_cmpR op_eq (pv 3) pe_str (nomark _)) (pss_one (ps_ret (pe_and (pe_call Fx (hr.mono (by omega)) rfl (g_Lclaims T) (f_Lclaims T).kp (b_Lclaims T) .nil pass0 (pa_cons (pe_ix ix_tup (pv 0) pe_int (fun _ _ => rfl)) (pa_cons (pv 1) (pa_cons (pv 2) pa_nil)))) (pe_one (pe_not (pe_call Fy (hr.mono (by omega)) rfl (g_Lclaims T) (f_Lclaims T).kp (b_Lclaims T) .nil pass0 (pa_cons (pe_ix ix_tup (pv 0) pe_int (fun _ _ => rfl)) (pa_cons (pv 1) (pa_cons (pv 2) pa_nil))))))))) pss_nil)
      (pss_cons (ps_if (pt_cmpR op_eq (pv 3) pe_str (nomark _)) (pss_one (ps_ret (pe_cmpR op_gt (pe_call (ok_Lrank T) (hr.mono (by omega)) rfl (g_Lrank T) (f_Lrank T).kp (b_Lrank T) .nil pass0 (pa_cons (pv 1) (pa_cons (pv 2) (pa_cons (pe_ix ix_tup (pv 0) pe_int (fun _ _ => rfl)) pa_nil)))) (pe_call (ok_Lrank T) (hr.mono (by omega)) rfl (g_Lrank T) (f_Lrank T).kp (b_Lrank T) .nil pass0 (pa_cons (pv 1) (pa_cons (pv 2) (pa_cons (pe_ix ix_tup (pv 0) pe_int (fun _ _ => rfl)) pa_nil)))) (nomark _)))) pss_nil)
      (pss_cons (ps_if (pt_cmpR op_eq (pv 3) pe_str (nomark _)) (pss_one (ps_ret (pe_call (ok_Lthere T) (hr.mono (by omega)) rfl (g_Lthere T) (f_Lthere T).kp (b_Lthere T) .nil pass0 (pa_cons (pv 1) (pa_cons (pv 2) (pa_cons pe_int (pa_cons (pe_ix ix_tup (pv 0) pe_int (fun _ _ => rfl)) (pa_cons pe_int pa_nil)))))))) pss_nil)
      (pss_cons (ps_if (pt_cmpR op_eq (pv 3) pe_str (nomark _)) (pss_one (ps_ret (pe_call (ok_Lthere T) (hr.mono (by omega)) rfl (g_Lthere T) (f_Lthere T).kp (b_Lthere T) .nil pass0 (pa_cons (pv 1) (pa_cons (pv 2) (pa_cons pe_int (pa_cons (pe_ix ix_tup (pv 0) pe_int (fun _ _ => rfl)) (pa_cons pe_int pa_nil)))))))) pss_nil)
      (pss_cons (ps_if (pt_cmpR op_eq (pv 3) pe_str (nomark _)) (pss_one (ps_ret (pe_call (ok_Lthere T) (hr.mono (by omega)) rfl (g_Lthere T) (f_Lthere T).kp (b_Lthere T) .nil pass0 (pa_cons (pv 1) (pa_cons (pv 2) (pa_cons pe_int (pa_cons (pe_ix ix_tup (pv 0) pe_int (fun _ _ => rfl)) (pa_cons (pe_callB (cr_maxT rfl hu65) rfl (z_max T) (by decide +kernel) (pa_cons (pv 2) pa_nil)) pa_nil)))))))) pss_nil)
      (pss_one (ps_ret pe_bl)))))))))), fun B0 H0 => ?_⟩
  refine ws_seq (ws_asg (s := dS "but") (ev_sc (ev_ixT (ds := [.str "but", x.enc, y.enc]) (ev_var rfl) ev_int rfl)) ?_)
  refine ws_seq (ws_if (et_eqF (ev_var rfl) (by decide +kernel)) (fun h => by cases h) fun _ => ws_next ?_)
  refine ws_seq (ws_if (et_eqF (ev_var rfl) (by decide +kernel)) (fun h => by cases h) fun _ => ws_next ?_)
  exact ws_seq (ws_if (et_eqT (ev_var rfl) rfl) (fun _ => ws_ret (ev_andV (ev_call (ea_cons (ev_ixT (ds := [.str "but", x.enc, y.enc]) (d := x.enc) (ev_var rfl) ev_int rfl) (ea_cons (ev_var rfl) (ea_cons (ev_var rfl) ea_nil))) ⟨κ, κn, ks, look, rfl, hl, h1, hk, ho, hxy.1, rfl⟩) fun _ => ev_notV (ev_call (ea_cons (ev_ixT (ds := [.str "but", x.enc, y.enc]) (d := y.enc) (ev_var rfl) ev_int rfl) (ea_cons (ev_var rfl) (ea_cons (ev_var rfl) ea_nil))) ⟨κ, κn, ks, look, rfl, hl, h1, hk, ho, hxy.2, rfl⟩)) rfl) fun h => by cases h)
theorem ok_Lclaims (T : Txt K mg) : ∀ n : Nt, FnOk P w K mg base CX0 (n.dep + 1) 739 (fdOf K 739) ["_law_note_here", "_law_kinds_here", "_law_look"] (spD (Plc n) noX)
  | .any => ok_Lclaims_any T
  | .made s => ok_Lclaims_made T s
  | .used s => ok_Lclaims_used T s
  | .chief s => ok_Lclaims_chief T s
  | .over x y => ok_Lclaims_over T x y
  | .both x y => ok_Lclaims_both T x y (k := max x.dep y.dep + 1) (by omega) (by omega) (by omega) (ok_Lclaims T x) (ok_Lclaims T y)
  | .either x y => ok_Lclaims_either T x y (k := max x.dep y.dep + 1) (by omega) (by omega) (by omega) (ok_Lclaims T x) (ok_Lclaims T y)
  | .but x y => ok_Lclaims_but T x y (k := max x.dep y.dep + 1) (by omega) (by omega) (by omega) (ok_Lclaims T x) (ok_Lclaims T y)
end TG
set_option Elab.async false
set_option linter.all false
set_option maxRecDepth 100000
set_option maxHeartbeats 4000000
/-! W21: the law's own judging: counts, rows, picks. -/
namespace TG
open PySem PySem.Spec PyProof.Rows L2
variable {P : Program} {w : World} {K : KF} {mg : Str → Option Value} {base : Heap}
theorem spD_none {vs : List V} {H : Hp} {Q : VK} {E : XK} (h : spD (fun _ _ => False) noX vs H Q E) : False := by
  obtain ⟨_, _, _, _, ⟨_, h, _⟩ | ⟨_, h, _⟩⟩ := h
  · exact h
  · exact h
theorem ok_LclaimsA (T : Txt K mg) : FnOk P w K mg base CX0 6 739 (fdOf K 739) ["_law_note_here", "_law_kinds_here", "_law_look"] (spD (fun ss s => ∃ n : Nt, n.dep ≤ 5 ∧ Plc n ss s) noX) := FnOk.all fun n => by
  by_cases h : n.dep ≤ 5
  · refine ((ok_Lclaims T n).mono (by omega)).imp fun vs H Q E hs => ?_
    obtain ⟨B, ss, e, r, ⟨s, ⟨_, hp⟩, q⟩ | ⟨x, hx, _⟩⟩ := hs
    · exact ⟨B, ss, e, r, .inl ⟨s, hp, q⟩⟩
    · exact hx.elim
  · refine ((ok_Lclaims T .any).mono (by decide)).imp fun vs H Q E hs => ?_
    obtain ⟨B, ss, e, r, ⟨s, ⟨h2, hp⟩, q⟩ | ⟨x, hx, _⟩⟩ := hs
    · exact absurd h2 h
    · exact hx.elim
theorem ok_Lcount (T : Txt K mg) : FnOk P w K mg base CX0 7 801 (fdOf K 801) ["_law_note_here", "_law_kinds_here", "_law_looks"] (spD (fun ss s => ∃ (κn : TK) (n : Nt) (ks : List Knd), ss = [.d n.enc κn, dL (ksL ks), .d (.list (nL (allLooks ks.length))) .fz] ∧ KsOk ks ∧ n.ok = true ∧ n.dep ≤ 5 ∧ s = dI (cntN ks n)) noX) := by
  refine Fun.okD (f_Lcount T) sc_Lcount (fun ss s ⟨_, _, _, h, _⟩ => by rw [h]; rfl) fun cdv A outer h H E hr ss s ⟨κn, n, ks, hs, hk, ho, hd, hv⟩ => ?_
  subst hs hv
  have hkl := hk.le
  refine ⟨_, (pss_cons (ps_set (i := 3) sc_Lcount.nd rfl (Or.inl rfl) pe_int)
      (pss_cons (ps_for PassesOwn.never rfl (pi_list (pv 2)) (pg_name (i := 4) sc_Lcount.nd rfl (Or.inl rfl))
      (pss_one (ps_if (pt_val (pe_call (ok_LclaimsA T) (hr.mono (by decide)) rfl (g_Lclaims T) (f_Lclaims T).kp (b_Lclaims T) .nil pass0 (pa_cons (pv 0) (pa_cons (pv 1) (pa_cons (pv 4) pa_nil))))) (pss_one (ps_set (i := 3) sc_Lcount.nd rfl (Or.inl rfl) (pe_op op_add (pv 3) pe_int))) pss_nil)))
      (pss_one (ps_ret (pv 3))))), fun B0 H0 => ?_⟩
  refine ws_seq (ws_asg (ev_int (i := 0)) ?_)
  refine ws_seq (ws_forL (κ := .fz) (ds := nL (allLooks ks.length)) (f := fun x Γ => Γ.set 4 (some (.d x .fz))) (ev_var rfl) (fun x _ => tg_name) (fun i Γ' => ∃ a, Γ' = [some (.d n.enc κn), some (dL (ksL ks)), some (.d (.list (nL (allLooks ks.length))) .fz), some (dI ((((allLooks ks.length).take i).filter fun l => n.cl ks l).length : Nat)), a]) ⟨none, rfl⟩ ?_ ?_)
  · rintro i x Γ' hx ⟨a, rfl⟩
    obtain ⟨l, hl, rfl⟩ : ∃ l, (allLooks ks.length)[i]? = some l ∧ encN l = x := by
      unfold nL at hx
      rw [List.getElem?_map] at hx
      cases q : (allLooks ks.length)[i]? with
      | none => rw [q] at hx; cases hx
      | some y => rw [q] at hx; exact ⟨y, rfl, Option.some.inj hx⟩
    have hm := List.mem_of_getElem? hl
    have e : (allLooks ks.length).take (i + 1) = (allLooks ks.length).take i ++ [l] := by rw [List.take_add_one, hl]; rfl
    refine ws_if (b := n.cl ks l) (et_B (ev_call (ea_cons (ev_var rfl) (ea_cons (ev_var rfl) (ea_cons (ev_var (s := .d (encN l) .fz) rfl) ea_nil))) ⟨n, hd, .fz, κn, ks, l, rfl, allLooks_len hm, hk.pos, by omega, hk.ok, ho, rfl⟩)) (fun hb => ws_asg (ev_add (ev_var rfl) ev_int) ⟨some (.d (encN l) .fz), ?_⟩) fun hb => ws_next ⟨some (.d (encN l) .fz), ?_⟩
    · rw [e, List.filter_append, List.length_append]
      simp [hb]
    · rw [e, List.filter_append, List.length_append]
      simp [hb]
  · rintro Γ' ⟨a, rfl⟩
    rw [nL_len, List.take_length]
    exact ws_ret (ev_var rfl) rfl
/-! the first greatest -/
theorem chief_max (look : List Int) : ∀ n, n ≤ look.length → 0 < n → chiefTo look n < n ∧ (∀ j < n, look.getD j 0 ≤ look.getD (chiefTo look n) 0) ∧ ∀ j < chiefTo look n, look.getD j 0 < look.getD (chiefTo look n) 0
  | 0, _, h => absurd h (by decide)
  | n + 1, hn, _ => by
    rw [chiefTo_succ]
    by_cases h0 : n = 0
    · subst h0
      have : chiefTo look 0 = 0 := rfl
      rw [this]
      split
      · exact ⟨by omega, fun j hj => by have : j = 0 := by omega
                                        subst this; exact Int.le_refl _, fun j hj => by omega⟩
      · exact ⟨by omega, fun j hj => by have : j = 0 := by omega
                                        subst this; exact Int.le_refl _, fun j hj => by omega⟩
    · obtain ⟨h1, h2, h3⟩ := chief_max look n (by omega) (by omega)
      split
      · next hlt =>
        refine ⟨by omega, fun j hj => ?_, fun j hj => ?_⟩
        · rcases Nat.lt_succ_iff_lt_or_eq.mp hj with hj | rfl
          · have := h2 j hj; omega
          · exact Int.le_refl _
        · have := h2 j hj; omega
      · next hlt =>
        refine ⟨by omega, fun j hj => ?_, h3⟩
        rcases Nat.lt_succ_iff_lt_or_eq.mp hj with hj | rfl
        · exact h2 j hj
        · omega
theorem foldl_max (l : List Int) : ∀ x : Int, x ≤ l.foldl max x ∧ (∀ y ∈ l, y ≤ l.foldl max x) ∧ (l.foldl max x = x ∨ l.foldl max x ∈ l) := by
  induction l with
  | nil => intro x; exact ⟨Int.le_refl _, (fun _ h => by cases h), .inl rfl⟩
  | cons y l ih =>
    intro x
    obtain ⟨h1, h2, h3⟩ := ih (max x y)
    rw [List.foldl_cons]
    refine ⟨by omega, fun z hz => ?_, ?_⟩
    · rcases List.mem_cons.mp hz with rfl | hz
      · omega
      · exact h2 z hz
    · rcases h3 with h3 | h3
      · rw [h3]
        rcases Int.le_total x y with h | h
        · right; rw [Int.max_eq_right h]; exact List.mem_cons_self ..
        · left; exact Int.max_eq_left h
      · exact .inr (List.mem_cons_of_mem _ h3)
theorem maxL_is {look : List Int} (h : 1 ≤ look.length) : (∀ y ∈ look, y ≤ maxL look) ∧ maxL look ∈ look := by
  cases look with
  | nil => simp at h
  | cons x l =>
    obtain ⟨h1, h2, h3⟩ := foldl_max l x
    refine ⟨fun y hy => ?_, ?_⟩
    · rcases List.mem_cons.mp hy with rfl | hy
      · exact h1
      · exact h2 y hy
    · rcases h3 with h3 | h3
      · show l.foldl max x ∈ x :: l
        rw [h3]; exact List.mem_cons_self ..
      · exact List.mem_cons_of_mem _ h3
theorem chief_idx {look : List Int} (h : 1 ≤ look.length) : look.idxOf (maxL look) = chiefN look := by
  obtain ⟨h1, h2, h3⟩ := chief_max look look.length (Nat.le_refl _) (by omega)
  obtain ⟨m1, m2⟩ := maxL_is h
  have hi := List.idxOf_lt_length_of_mem m2
  have e : look.getD (chiefTo look look.length) 0 = maxL look := by
    have a := h2 _ hi
    rw [List.getD_eq_getElem?_getD, List.getElem?_eq_getElem hi, List.getElem_idxOf hi] at a
    have b : look.getD (chiefTo look look.length) 0 ≤ maxL look := by
      apply m1
      rw [List.getD_eq_getElem?_getD, List.getElem?_eq_getElem h1]
      exact List.getElem_mem h1
    rw [Option.getD_some] at a
    omega
  show look.idxOf (maxL look) = chiefTo look look.length
  rcases Nat.lt_trichotomy (look.idxOf (maxL look)) (chiefTo look look.length) with q | q | q
  · have a := h3 _ q
    rw [List.getD_eq_getElem?_getD, List.getElem?_eq_getElem hi, List.getElem_idxOf hi, e, Option.getD_some] at a
    omega
  · exact q
  · exfalso
    have hb := List.not_of_lt_findIdx (p := (· == maxL look)) (xs := look) (i := chiefTo look look.length) q
    rw [List.getD_eq_getElem?_getD, List.getElem?_eq_getElem h1] at e
    have e' : look[chiefTo look look.length] = maxL look := e
    simp [e'] at hb
theorem ok_Lalone (T : Txt K mg) : FnOk P w K mg base CX0 1 806 (fdOf K 806) ["_law_look"] (spD (fun ss s => ∃ (look : List Int), ss = [.d (encN look) .fz] ∧ 1 ≤ look.length ∧ look.length ≤ 1000 ∧ s = .d (encN (aloneL look))) noX) := by
  refine Fun.okD (f_Lalone T) sc_Lalone (fun ss s ⟨_, h, _⟩ => by rw [h]; rfl) fun cdv A outer h H E hr ss s ⟨look, hs, hl, hk, hv⟩ => ?_
  have hu65 := hu65_of hr
  subst hs hv
  refine ⟨_, (pss_cons (ps_set (i := 1) sc_Lalone.nd rfl (Or.inr rfl) (pe_mG tyF_ok PySem.F.plainAttrs_tuple PySem.F.slot_tuple_index PySem.F.type_tuple_index mt_tupIx (pv 0) (pa_cons (pe_callB (cr_maxT rfl hu65) rfl (z_max T) (by decide +kernel) (pa_cons (pv 0) pa_nil)) pa_nil)))
      (pss_one (ps_ret (pe_callTy call_tuple_of rfl (z_tuple T) (by decide +kernel) (pa_cons (pe_lc (own := [("_law_k", 2)]) rfl sc_Lalone.nd (pi_range1 rfl (z_range T) (pa_cons (pe_callB call_len rfl (z_len T) PySem.boot_len (pa_cons (pv 0) pa_nil)) pa_nil)) (blkOk_by (own := [("_law_k", 2)]) (N := N_Lalone) (sc := defScope s_Lalone) (by decide +kernel)) (fun _ _ _ _ _ => pg_name (i := 2) sc_Lalone.nd rfl (Or.inl rfl)) (fun _ _ _ _ _ => pts_nil) (fun _ _ _ _ _ => (pe_callTy (r := rInt1) call_int1 rfl (z_int T) (by decide +kernel) (pa_cons (pe_cmpR op_eq (pv 2) (pv 1) (nomark _)) pa_nil)))) pa_nil))))), fun B0 H0 => ?_⟩
  refine ws_seq (ws_asg (s := dI (chiefN look : Nat)) ((ev_tupIx (ns := look) (i := maxL look) (ev_var rfl) (maxev hl (ev_var (s := .d (.tuple (iL look)) .fz) rfl)) (maxL_is hl).2).is (by rw [chief_idx hl])) ?_)
  refine ws_ret (ev_tupL (ds := iL (aloneL look)) (ev_fz ((ev_lcR (κ' := .pl) (n := look.length) (fun _ => true) (fun d => match d with | .int i => .int (if decide (i = (chiefN look : Nat)) = true then 1 else 0) | d => d) (ea_cons ((ev_lenT (ds := iL look) (ev_var (s := .d (.tuple (iL look)) .fz) rfl)).is (by rw [iL_len])) ea_nil) (List.mem_cons_self ..) (by omega) (fun i hi => et_yes) (fun i hi _ => ev_intB (ev_eqI (ev_var rfl) (ev_var rfl)))).is ?_))) rfl
  congr 1
  rw [List.filter_eq_self.mpr (fun _ _ => rfl)]
  unfold rngD iL aloneL
  rw [List.map_map, List.map_map]
  apply List.map_congr_left
  intro i _
  show PyData.int _ = PyData.int _
  congr 1
  by_cases hi : i = chiefN look
  · simp [hi]
  · have h2 : ¬ ((i : Int) = (chiefN look : Nat)) := by omega
    simp [hi, h2]
def rowNum : PyData → List Int
  | .tuple (n :: _) => unN n
  | _ => []
theorem rowNum_enc (r : Rw) : rowNum r.enc = r.num := unN_N _
theorem rows_below (rows : List Rw) (at_ : List Int) : (((rwL rows).filter fun d => decide ((rowNum d).dropLast = at_)).map fun d => encN (rowNum d)) = nL ((rows.map Rw.num).filter fun n => decide (n.dropLast = at_)) := by
  unfold rwL nL
  rw [List.filter_map, List.map_map, List.filter_map, List.map_map]
  have e : ((fun d => decide ((rowNum d).dropLast = at_)) ∘ Rw.enc) = ((fun n => decide (n.dropLast = at_)) ∘ Rw.num) := by
    funext r
    simp only [Function.comp, rowNum_enc]
  rw [e]
  apply List.map_congr_left
  intro r _
  simp only [Function.comp, rowNum_enc]
theorem ok_Lbeneath (T : Txt K mg) : FnOk P w K mg base CX0 1 770 (fdOf K 770) ["_law_rows_here", "_law_at"] (spD (fun ss s => ∃ rows at_, ss = [dL (rwL rows), .d (encN at_)] ∧ RowsOk rows ∧ s = .own (nL (belowN rows at_))) noX) := by
  refine Fun.okD (f_Lbeneath T) sc_Lbeneath (fun ss s ⟨_, _, h, _⟩ => by rw [h]; rfl) fun cdv A outer h H E hr ss s ⟨rows, at_, hs, hok, hv⟩ => ?_
  have hu65 := hu65_of hr
  have hu64 : A.units + 3 + 64 < cLine := hr.units
  subst hs hv
  have hle := hok.le
  refine ⟨_, (pss_one (ps_ret (pe_callB (cr_sortD (κ := .pl) hu65) rfl (z_sorted T) (by decide +kernel) (pa_cons (pe_lc (own := [("_law_row", 2)]) rfl sc_Lbeneath.nd (pi_list (pv 0)) (blkOk_by (own := [("_law_row", 2)]) (N := N_Lbeneath) (sc := defScope s_Lbeneath) (by decide +kernel)) (fun _ _ _ _ _ => pg_name (i := 2) sc_Lbeneath.nd rfl (Or.inl rfl)) (fun _ _ _ _ _ => (pts_one (pt_cmpR (r := rEqD K) (op_eqD hu64) (pe_slice (r := rSlA K) sl_tupA (pe_ix (r := rIxT K) ix_tup (pv 2) pe_int (fun _ _ => rfl)) po_none (po_some (pe_un un_neg pe_int))) (pv 1) (nomark _)))) (fun _ _ _ _ _ => (pe_ix (r := rIxT K) ix_tup (pv 2) pe_int (fun _ _ => rfl)))) pa_nil)))), fun B0 H0 => ws_ret ?_ rfl⟩
  refine (ev_sortD (κ := .pl) (ds := nL ((rows.map Rw.num).filter fun n => decide (n.dropLast = at_))) ((ev_fz (ev_lcL (κ := .pl) (κ' := .pl) (ds := rwL rows) (fun d => decide ((rowNum d).dropLast = at_)) (fun d => encN (rowNum d)) (ev_var rfl) (List.mem_cons_self ..) (by simp only [rwL, List.length_map]; omega) (fun d hd => ?_) (fun d hd _ => ?_))).is (by rw [rows_below])) (nums_alike _) (nums_sortable fun n hn => ?_) (nums_depth _)).is (by rw [belowN_enc]; rfl)
  · obtain ⟨r, _, rfl⟩ := List.mem_map.mp hd
    rw [rowNum_enc]
    exact (et_test (ev_eqD (κ := .pl) (κ' := .pl) (ev_dropLast (row_num (ev_var rfl))) (ev_var rfl) ((gd_N _).shaped (by decide)) ((gd_N _).shaped (by decide)))).is (eqv_N _ _)
  · obtain ⟨r, _, rfl⟩ := List.mem_map.mp hd
    rw [rowNum_enc]
    exact row_num (ev_var rfl)
  · obtain ⟨r, hr, rfl⟩ := List.mem_map.mp (List.mem_filter.mp hn).1
    exact hok.ne r hr
theorem ok_Lrowof (T : Txt K mg) : FnOk P w K mg base CX0 1 777 (fdOf K 777) ["_law_rows_here", "_law_number"] (spD (fun ss s => ∃ rows n r, ss = [dL (rwL rows), .d (encN n)] ∧ fnds rows n = some r ∧ s = .d r.enc) noX) := by
  refine Fun.okD (f_Lrowof T) sc_Lrowof (fun ss s ⟨_, _, _, h, _⟩ => by rw [h]; rfl) fun cdv A outer h H E hr ss s ⟨rows, n, r, hs, hf, hv⟩ => ?_
  have hu64 : A.units + 3 + 64 < cLine := hr.units
  subst hs hv
  refine ⟨_, (pss_cons (ps_for PassesOwn.never rfl (pi_list (pv 0)) (pg_name (i := 2) sc_Lrowof.nd rfl (Or.inl rfl))
      (pss_one (ps_if (pt_cmpR (op_eqD hu64) (pe_ix ix_tup (pv 2) pe_int (fun _ _ => rfl)) (pv 1) (nomark _)) (pss_one (ps_ret (pv 2))) pss_nil)))
      (pss_one (ps_ret (pe_tup (pa_cons (pe_tup pa_nil) (pa_cons (pe_tup (pa_cons pe_str pa_nil)) (pa_cons pe_str pa_nil))))))), fun B0 H0 => ?_⟩
  refine ws_seq (ws_forL (κ := .pl) (ds := rwL rows) (f := fun x Γ => Γ.set 2 (some (.d x .pl))) (ev_var rfl) (fun x _ => tg_name) (fun i Γ' => (∃ o, Γ' = [some (dL (rwL rows)), some (.d (encN n)), o]) ∧ ∀ q ∈ rows.take i, q.num ≠ n) ⟨⟨none, rfl⟩, fun q h => by cases h⟩ ?_ ?_)
  · rintro i x Γ' hx ⟨⟨o, rfl⟩, hno⟩
    obtain ⟨q, hq, rfl⟩ := rows_get hx
    refine ws_if (b := decide (q.num = n)) ((et_test (ev_eqD (κ := .pl) (κ' := .pl) (row_num (ev_var rfl)) (ev_var rfl) ((gd_N _).shaped (by decide)) ((gd_N _).shaped (by decide)))).is (eqv_N _ _)) (fun hb => ws_ret (ev_var rfl) ?_) fun hb => ws_next ⟨⟨_, rfl⟩, fun p hp => ?_⟩
    · have hb' := of_decide_eq_true hb
      have : fnds rows n = some q := by
        unfold fnds
        rw [List.find?_eq_some_iff_append]
        obtain ⟨hi, hqe⟩ := List.getElem?_eq_some_iff.mp hq
        refine ⟨decide_eq_true hb', rows.take i, rows.drop (i + 1), ?_, fun p hp => by simpa using hno p hp⟩
        rw [← hqe, List.getElem_cons_drop, List.take_append_drop]
      rw [hf] at this
      cases this
      rfl
    · rw [List.take_add_one, hq] at hp
      rcases List.mem_append.mp hp with hp | hp
      · exact hno p hp
      · simp at hp
        subst hp
        exact of_decide_eq_false hb
  · rintro Γ' ⟨⟨o, rfl⟩, hno⟩
    exfalso
    obtain ⟨e, hm⟩ := fnd_num hf
    refine hno r ?_ e
    have : (rwL rows).length = rows.length := by simp [rwL]
    rw [this, List.take_length]
    exact hm
theorem ok_Lcounts (T : Txt K mg) : FnOk P w K mg base CX0 8 818 (fdOf K 818) ["_law_rows_here", "_law_kinds_here"] (spD (fun ss s => ∃ rows ks, ss = [dL (rwL rows), dL (ksL ks)] ∧ RowsOk rows ∧ KsOk ks ∧ s = .owd (countE ks rows)) noX) := by
  refine Fun.okD (f_Lcounts T) sc_Lcounts (fun ss s ⟨_, _, h, _⟩ => by rw [h]; rfl) fun cdv A outer h H E hr ss s ⟨rows, ks, hs, hok, hk, hv⟩ => ?_
  have hu := hu_of' hr
  subst hs hv
  have hle := hok.le
  refine ⟨_, (pss_cons (ps_set (i := 2) sc_Lcounts.nd rfl (Or.inl rfl) (pe_call (ok_alllooks T) (hr.mono (by decide)) rfl (g_alllooks T) (f_alllooks T).kp (b_alllooks T) .nil pass0 (pa_cons (pe_callB call_len rfl (z_len T) PySem.boot_len (pa_cons (pv 1) pa_nil)) pa_nil)))
      (pss_cons (ps_set (i := 3) sc_Lcounts.nd rfl (Or.inl rfl) pe_dnewT)
      (pss_cons (ps_for PassesOwn.never rfl (pi_list (pv 0)) (pg_tup rfl (pgs_cons (pg_name (i := 4) sc_Lcounts.nd rfl (Or.inl rfl)) (pgs_cons (pg_name (i := 5) sc_Lcounts.nd rfl (Or.inl rfl)) (pgs_cons (pg_name (i := 6) sc_Lcounts.nd rfl (Or.inl rfl)) pgs_nil))))
      (pss_one (ps_dput hu (pv 3) (pv 4) (pe_call (ok_Lcount T) (hr.mono (by decide)) rfl (g_Lcount T) (f_Lcount T).kp (b_Lcount T) .nil pass0 (pa_cons (pv 5) (pa_cons (pv 1) (pa_cons (pv 2) pa_nil)))) rfl)))
      (pss_one (ps_ret (pv 3)))))), fun B0 H0 => ?_⟩
  have hlk : (rwL rows).length = rows.length := by simp [rwL]
  refine ws_seq (ws_asg (ev_fz (ev_call (ea_cons ((ev_lenL (ds := ksL ks) (ev_var rfl)).is (by rw [ksL_len])) ea_nil) ⟨ks.length, rfl, hk.pos, hk.le, rfl⟩)) ?_)
  refine ws_seq (ws_asg ev_dnew ?_)
  refine ws_seq (ws_forL (κ := .pl) (ds := rwL rows) (f := fun x Γ => match x with | .tuple [a, b, c] => ((Γ.set 4 (some (.d a))).set 5 (some (.d b))).set 6 (some (.d c)) | _ => Γ) (ev_var rfl) (fun x hx => ?_) (fun i Γ' => ∃ a b c, Γ' = [some (dL (rwL rows)), some (dL (ksL ks)), some (.d (.list (nL (allLooks ks.length))) .fz), some (.owd (countE ks (rows.take i))), a, b, c]) ⟨none, none, none, rfl⟩ ?_ ?_)
  · obtain ⟨r, _, rfl⟩ := List.mem_map.mp hx
    exact tg_tup3
  · rintro i x Γ' hx ⟨a, b, c, rfl⟩
    obtain ⟨r, hr, rfl⟩ := rows_get hx
    have hm := List.mem_of_getElem? hr
    have hnot : hasK r.num (countE ks (rows.take i)) = false := by
      unfold countE
      rw [hasK_iff, List.map_map]
      exact decide_eq_false (take_not hr hok.nod)
    refine ws_dput (s := dI (cntN ks r.note)) (i := 3) rfl (ev_call (ea_cons (ev_var rfl) (ea_cons (ev_var rfl) (ea_cons (ev_var rfl) ea_nil))) ⟨.pl, r.note, ks, rfl, hk, hok.ok r hm, hok.dep r hm, rfl⟩) (ev_var rfl) hnot ?_ rfl ⟨some (.d (encN r.num)), some (.d r.note.enc), some (.d (.str (ruleS r.one))), ?_⟩
    · have := List.length_take_le i rows
      have := (List.getElem?_eq_some_iff.mp hr).1
      simp only [countE, List.length_map]
      omega
    · rw [rows_snoc hr]
      unfold countE
      rw [List.map_append]
      rfl
  · rintro Γ' ⟨a, b, c, rfl⟩
    rw [hlk, List.take_length]
    exact ws_retOwn rfl rfl
end TG
set_option Elab.async false
set_option linter.all false
set_option maxRecDepth 100000
set_option maxHeartbeats 4000000
/-! W22: the law's pick, end, through, weighed. -/
namespace TG
open PySem PySem.Spec PyProof.Rows L2
variable {P : Program} {w : World} {K : KF} {mg : Str → Option Value} {base : Heap}
theorem lex2 (a b c d : Int) : Ob.lexAt (fun j => decide ([a, b].getD j 0 = [c, d].getD j 0)) (fun j => decide ([a, b].getD j 0 ≤ [c, d].getD j 0)) (decide ([a, b].length ≤ [c, d].length)) 0 (min [a, b].length [c, d].length) = decide (a < c ∨ (a = c ∧ b ≤ d)) := by
  show (if decide (a = c) = true then (if decide (b = d) = true then decide (2 ≤ 2) else decide (b ≤ d)) else decide (a ≤ c)) = _
  by_cases h1 : a = c
  · rw [if_pos (decide_eq_true h1)]
    by_cases h2 : b = d
    · rw [if_pos (decide_eq_true h2)]
      have : (a < c ∨ (a = c ∧ b ≤ d)) := .inr ⟨h1, by omega⟩
      rw [decide_eq_true this]; rfl
    · rw [if_neg (by simpa using h2)]
      have e : (a < c ∨ (a = c ∧ b ≤ d)) ↔ b ≤ d := by omega
      exact (decide_eq_decide.mpr e).symm
  · rw [if_neg (by simpa using h1)]
    have e : (a < c ∨ (a = c ∧ b ≤ d)) ↔ a ≤ c := by omega
    exact (decide_eq_decide.mpr e).symm
theorem ev_leT2 {Γ : Cxt} {ta tb : TE} {a b c d : Int} (ha : EvS ta Γ (dT [.int a, .int b])) (hb : EvS tb Γ (dT [.int c, .int d])) : EvS (tOp (rLeT K) ta tb) Γ (dB (decide (a < c ∨ (a = c ∧ b ≤ d)))) :=
  ev_op2 ha hb rfl rfl fun B H v w Q e r1 r2 q => by
    obtain ⟨p1, vs, rfl, h1, q1⟩ := RpK.tup_inv r1
    obtain ⟨p2, ws, rfl, h2, q2⟩ := RpK.tup_inv r2
    have e1 : vs = [a, b].map V.int := RpKA.ints (ns := [a, b]) q1
    have e2 : ws = [c, d].map V.int := RpKA.ints (ns := [c, d]) q2
    rw [e1] at h1
    rw [e2] at h2
    exact ⟨p1, p2, [a, b], [c, d], rfl, rfl, .inl (rd_mono e h1), .inl (rd_mono e h2), by rw [lex2]; exact q.now e (RpK.bl _) rfl⟩
def cntR (ks : List Knd) (rows : List Rw) (n : List Int) : Int := cntN ks (noteAt rows n)
def offR (ks : List Knd) (rows : List Rw) (look n : List Int) : Int := offI (clAt ks rows (aloneL look) n)
def clmL (ks : List Knd) (rows : List Rw) (at_ look : List Int) : List (List Int) := (belowN rows at_).filter (clAt ks rows look)
def keyLe (ks : List Knd) (rows : List Rw) (look a b : List Int) : Bool := decide (cntR ks rows a < cntR ks rows b ∨ (cntR ks rows a = cntR ks rows b ∧ offR ks rows look a ≤ offR ks rows look b))
def bestL (ks : List Knd) (rows : List Rw) (look : List Int) (cs : List (List Int)) : List Int := cs.foldl (fun b n => if keyLe ks rows look n b then n else b) (cs.getD 0 [])
def pickL (ks : List Knd) (rule : Bool) (rows : List Rw) (at_ look : List Int) : PR :=
  if clmL ks rows at_ look = [] then .no at_ else if rule = true ∧ 1 < (clmL ks rows at_ look).length then .two at_ ((clmL ks rows at_ look).getD 0 []) ((clmL ks rows at_ look).getD 1 []) else .go (bestL ks rows look (clmL ks rows at_ look))
def encPR (ks : List Knd) (look : List Int) : PR → PyData
  | .go n => .tuple [.int 1, encN n]
  | .no at_ => .tuple [.int 2, .list (partsL ks look), encN at_]
  | .two at_ a b => .tuple [.int 3, .list (partsL ks look), encN at_, encN a, encN b]
theorem clm_mem {ks : List Knd} {rows : List Rw} {at_ look n : List Int} (h : n ∈ clmL ks rows at_ look) : n ∈ belowN rows at_ := (List.mem_filter.mp h).1
theorem noteAt_of {rows : List Rw} {n : List Int} {r : Rw} (h : fnds rows n = some r) : noteAt rows n = r.note := by unfold noteAt; rw [h]
theorem count_get {Γ : Cxt} {te ta : TE} {ks : List Knd} {rows : List Rw} {n : List Int} {r : Rw} (hf : fnds rows n = some r) (h : EvS te Γ (.ab (DicP (countE ks rows)))) (hn : EvS ta Γ (.d (encN n))) : EvS (tDGet te ta) Γ (dI (cntR ks rows n)) := by
  have e : cntR ks rows n = cntN ks r.note := by unfold cntR; rw [noteAt_of hf]
  rw [e]
  exact ev_dgetR (kvs := countE ks rows) (φ := DicP (countE ks rows)) h (fun _ _ h => DicP.rd h) hn (fnd_map hf fun r => slP (dI (cntN ks r.note))) fun B w h => slP_ab (s := dI (cntN ks r.note)) rfl h
theorem parts_lc (ks : List Knd) (look : List Int) : (((rngD ks.length).filter fun d => match d with | .int i => decide (0 < look.getD i.toNat 0) | _ => false).map fun d => match d with | .int i => partD (ks.getD i.toNat ("", "")) (look.getD i.toNat 0) | d => d) = partsL ks look := by
  rw [filter_rng look ks.length _ (fun k => decide (0 < look.getD k 0)) (fun i hi => rfl), List.map_map]
  rfl

theorem ok_Lpick (T : Txt K mg) : FnOk P w K mg base CX0 7 811 (fdOf K 811) ["_law_rows_here", "_law_kinds_here", "_law_rule", "_law_counts_here", "_law_at", "_law_look"] (spD (fun ss s => ∃ (rows : List Rw) (ks : List Knd) (rule : Bool) (at_ look : List Int), ss = [dL (rwL rows), dL (ksL ks), dS (ruleS rule), .ab (DicP (countE ks rows)), .d (encN at_), .d (encN look) .fz] ∧ RowsOk rows ∧ KsOk ks ∧ look.length = ks.length ∧ s = .d (encPR ks look (pickL ks rule rows at_ look))) noX) := by
  refine Fun.okD (f_Lpick T) sc_Lpick (fun ss s ⟨_, _, _, _, _, h, _⟩ => by rw [h]; rfl) fun cdv A outer h H E hr ss s ⟨rows, ks, rule, at_, look, hs, hok, hk, hl, hv⟩ => ?_
  have hu := hu_of' hr
  have hu65 := hu65_of hr
  have hu64 : A.units + 3 + 64 < cLine := hr.units
  subst hs hv
  have hkl := hk.le
  have hkp := hk.pos
  have hrl := hok.le
  have hbl := belowN_len rows at_
  refine ⟨_, (pss_cons (ps_set (i := 6) sc_Lpick.nd rfl (Or.inl rfl) (pe_call (ok_Lbeneath T) (hr.mono (by decide)) rfl (g_Lbeneath T) (f_Lbeneath T).kp (b_Lbeneath T) .nil pass0 (pa_cons (pv 0) (pa_cons (pv 4) pa_nil))))
      (pss_cons (ps_setLc (i := 8) (own := [("_law_number", 7)]) rfl sc_Lpick.nd rfl rfl (sw_true rfl rfl rfl (by decide +kernel)) (pi_list (pv 6)) (blkOk_by (own := [("_law_number", 7)]) (N := N_Lpick) (sc := defScope s_Lpick) (by decide +kernel)) (fun _ _ _ _ _ => pg_name (i := 7) sc_Lpick.nd rfl (Or.inl rfl)) (fun _ _ _ _ _ => (pts_one (pt_val (pe_call (ok_LclaimsA T) (hr.mono (by decide)) rfl (g_Lclaims T) (f_Lclaims T).kp (b_Lclaims T) .nil pass0 (pa_cons (pe_ix (r := rIxT K) ix_tup (pe_call (ok_Lrowof T) (hr.mono (by decide)) rfl (g_Lrowof T) (f_Lrowof T).kp (b_Lrowof T) .nil pass0 (pa_cons (pv 0) (pa_cons (pv 7) pa_nil))) pe_int (fun _ _ => rfl)) (pa_cons (pv 1) (pa_cons (pv 5) pa_nil))))))) (fun _ _ _ _ _ => (pv 7)))
      (pss_cons (ps_setLc (i := 9) (own := [("_law_k", 13)]) rfl sc_Lpick.nd rfl rfl (sw_true rfl rfl rfl (by decide +kernel)) (pi_range1 rfl (z_range T) (pa_cons (pe_callB call_len rfl (z_len T) PySem.boot_len (pa_cons (pv 1) pa_nil)) pa_nil)) (blkOk_by (own := [("_law_k", 13)]) (N := N_Lpick) (sc := defScope s_Lpick) (by decide +kernel)) (fun _ _ _ _ _ => pg_name (i := 13) sc_Lpick.nd rfl (Or.inl rfl)) (fun _ _ _ _ _ => (pts_one (pt_cmpR op_gt (pe_ix (r := rIxT K) ix_tup (pv 5) (pv 13) (fun _ _ => rfl)) pe_int (nomark _)))) (fun _ _ _ _ _ => (pe_tup (pa_cons (pe_ix (r := rIxT K) ix_tup (pe_ix (r := rIxL K) ix_list (pv 1) (pv 13) (fun _ _ => rfl)) pe_int (fun _ _ => rfl)) (pa_cons (pe_ix (r := rIxT K) ix_tup (pe_ix (r := rIxL K) ix_list (pv 1) (pv 13) (fun _ _ => rfl)) pe_int (fun _ _ => rfl)) (pa_cons (pe_ix (r := rIxT K) ix_tup (pv 5) (pv 13) (fun _ _ => rfl)) pa_nil))))))
      (pss_cons (ps_if (pt_cmpR (op_eqD hu64) (pv 8) (pe_lst pa_nil) (nomark _)) (pss_one (ps_ret (pe_tup (pa_cons pe_int (pa_cons (pv 9) (pa_cons (pv 4) pa_nil)))))) pss_nil)
      (pss_cons (ps_if (PW.pt (pw_and (pt_cmpR op_eq (pv 2) pe_str (nomark _)) (pw_and1 (pt_cmpR op_gt (pe_callB call_len rfl (z_len T) PySem.boot_len (pa_cons (pv 8) pa_nil)) pe_int (nomark _))))) (pss_one (ps_ret (pe_tup (pa_cons pe_int (pa_cons (pv 9) (pa_cons (pv 4) (pa_cons (pe_ix ix_list (pv 8) pe_int (fun _ _ => rfl)) (pa_cons (pe_ix ix_list (pv 8) pe_int (fun _ _ => rfl)) pa_nil)))))))) pss_nil)
      (pss_cons (ps_set (i := 10) sc_Lpick.nd rfl (Or.inl rfl) (pe_ix ix_list (pv 8) pe_int (fun _ _ => rfl)))
      (pss_cons (ps_for PassesOwn.never rfl (pi_list (pv 8)) (pg_name (i := 7) sc_Lpick.nd rfl (Or.inl rfl))
      (pss_cons (ps_set (i := 11) sc_Lpick.nd rfl (Or.inl rfl) (pe_call (ok_LclaimsA T) (hr.mono (by decide)) rfl (g_Lclaims T) (f_Lclaims T).kp (b_Lclaims T) .nil pass0 (pa_cons (pe_ix (r := rIxT K) ix_tup (pe_call (ok_Lrowof T) (hr.mono (by decide)) rfl (g_Lrowof T) (f_Lrowof T).kp (b_Lrowof T) .nil pass0 (pa_cons (pv 0) (pa_cons (pv 10) pa_nil))) pe_int (fun _ _ => rfl)) (pa_cons (pv 1) (pa_cons (pe_call (ok_Lalone T) (hr.mono (by decide)) rfl (g_Lalone T) (f_Lalone T).kp (b_Lalone T) .nil pass0 (pa_cons (pv 5) pa_nil)) pa_nil)))))
      (pss_cons (ps_set (i := 12) sc_Lpick.nd rfl (Or.inl rfl) (pe_call (ok_LclaimsA T) (hr.mono (by decide)) rfl (g_Lclaims T) (f_Lclaims T).kp (b_Lclaims T) .nil pass0 (pa_cons (pe_ix (r := rIxT K) ix_tup (pe_call (ok_Lrowof T) (hr.mono (by decide)) rfl (g_Lrowof T) (f_Lrowof T).kp (b_Lrowof T) .nil pass0 (pa_cons (pv 0) (pa_cons (pv 7) pa_nil))) pe_int (fun _ _ => rfl)) (pa_cons (pv 1) (pa_cons (pe_call (ok_Lalone T) (hr.mono (by decide)) rfl (g_Lalone T) (f_Lalone T).kp (b_Lalone T) .nil pass0 (pa_cons (pv 5) pa_nil)) pa_nil)))))
      (pss_one (ps_if (pt_cmpR (op_leT hr.units0) (pe_tup (pa_cons (pe_dget hu (pv 3) (pv 7) (fun _ _ => rfl)) (pa_cons (pe_callTy call_int1 rfl (z_int T) (by decide +kernel) (pa_cons (pe_not (pv 12)) pa_nil)) pa_nil))) (pe_tup (pa_cons (pe_dget hu (pv 3) (pv 10) (fun _ _ => rfl)) (pa_cons (pe_callTy call_int1 rfl (z_int T) (by decide +kernel) (pa_cons (pe_not (pv 11)) pa_nil)) pa_nil))) (nomark _)) (pss_one (ps_set (i := 10) sc_Lpick.nd rfl (Or.inl rfl) (pv 7))) pss_nil)))))
      (pss_one (ps_ret (pe_tup (pa_cons pe_int (pa_cons (pv 10) pa_nil)))))))))))), fun B0 H0 => ?_⟩
  have cl : ∀ (Γ : Cxt) (i : Nat) (n : List Int) (κ : TK) (l : List Int) (tl : TE), n ∈ belowN rows at_ → l.length = ks.length → Γ[0]? = some (some (dL (rwL rows))) → Γ[1]? = some (some (dL (ksL ks))) → Γ[i]? = some (some (.d (encN n))) → EvS tl Γ (.d (.tuple (iL l)) κ) →
      EvS (tCall (spD (fun ss s => ∃ n : Nt, n.dep ≤ 5 ∧ Plc n ss s) noX) [] E0 (tCons (tOp (rIxT K) (tCall (spD (fun ss s => ∃ rows n r, ss = [dL (rwL rows), .d (encN n)] ∧ fnds rows n = some r ∧ s = .d r.enc) noX) [] E0 (tCons (tVar 0) (tCons (tVar i) tNil))) (tC (.int 1))) (tCons (tVar 1) (tCons tl tNil)))) Γ (dB (clAt ks rows l n)) := fun Γ i n κ l tl hm hll e0 e1 ei hl' => by
    obtain ⟨r, hf, hrm, _⟩ := bel_row hok hm
    refine ev_call (ea_cons (row_note (r := r) (ev_call (ea_cons (ev_var e0) (ea_cons (ev_var ei) ea_nil)) ⟨rows, n, r, rfl, hf, rfl⟩)) (ea_cons (ev_var e1) (ea_cons hl' ea_nil))) ⟨r.note, hok.dep r hrm, κ, .pl, ks, l, rfl, hll, hkp, by omega, hk.ok, hok.ok r hrm, ?_⟩
    unfold clAt
    rw [noteAt_of hf]
  refine ws_seq (ws_asg (ev_fz (ev_call (ea_cons (ev_var rfl) (ea_cons (ev_var rfl) ea_nil)) ⟨rows, at_, rfl, hok, rfl⟩)) ?_)
  refine ws_seq (ws_asg (s := dL (nL (clmL ks rows at_ look))) ((ev_fz (ev_lcL (κ := .pl) (κ' := .pl) (ds := nL (belowN rows at_)) (fun d => clAt ks rows look (unN d)) id (ev_var rfl) (List.mem_cons_self ..) (by rw [nL_len]; omega) (fun d hd => ?_) (fun d hd _ => ev_var rfl))).is ?_) ?_)
  · obtain ⟨n, hn, rfl⟩ := List.mem_map.mp hd
    rw [unN_N]
    exact et_B (cl _ 7 n .fz look _ hn hl rfl rfl rfl (ev_var (s := .d (.tuple (iL look)) .fz) rfl))
  · rw [List.map_id]
    congr 2
    unfold nL clmL
    rw [List.filter_map]
    congr 2
    funext n
    simp only [Function.comp, unN_N]
  refine ws_seq (ws_asg (s := dL (partsL ks look)) ((ev_fz (ev_lcR (κ' := .pl) (n := ks.length) (fun d => match d with | .int i => decide (0 < look.getD i.toNat 0) | _ => false) (fun d => match d with | .int i => partD (ks.getD i.toNat ("", "")) (look.getD i.toNat 0) | d => d) (ea_cons ((ev_lenL (ds := ksL ks) (ev_var rfl)).is (by rw [ksL_len])) ea_nil) (List.mem_cons_self ..) (by omega) (fun i hi => ?_) (fun i hi _ => ?_))).is (by rw [parts_lc])) ?_)
  · exact et_test (ev_gt (look_ix (κ := .fz) (l := look) (by omega) (ev_var (s := .d (.tuple (iL look)) .fz) rfl) (ev_var rfl)) ev_int)
  · have hki := ks_ix (K := K) (Γ := (wipeG (((stG N_Lpick [dL (rwL rows), dL (ksL ks), dS (ruleS rule), .ab (DicP (countE ks rows)), .d (encN at_), .d (encN look) .fz]).set 6 (some (dL (nL (belowN rows at_))))).set 8 (some (dL (nL (clmL ks rows at_ look))))) [13]).set 13 (some (dI (i : Int)))) (ta := tVar 1) (tb := tVar 13) hi (ev_var rfl) (ev_var rfl)
    exact ev_tup (κ := .pl) (ds := [.str (ks.getD i ("", "")).1, .str (ks.getD i ("", "")).2, .int (look.getD i 0)]) (ea_cons (ev_ixT hki ev_int rfl) (ea_cons (ev_ixT hki ev_int rfl) (ea_cons (look_ix (κ := .fz) (l := look) (by omega) (ev_var (s := .d (.tuple (iL look)) .fz) rfl) (ev_var rfl)) ea_nil))) (by simp)
  have hcl : (clmL ks rows at_ look).length ≤ 24 := Nat.le_trans (List.length_filter_le _ _) (by omega)
  have gdc : Gd 2 (.list (nL (clmL ks rows at_ look))) := gd_lst (n := 1) fun d hd => by
    obtain ⟨n, _, rfl⟩ := List.mem_map.mp hd
    exact gd_N n
  refine ws_seq (ws_if (b := decide (clmL ks rows at_ look = [])) ((et_test (ev_eqD (κ := .pl) (κ' := .pl) (x := .list (nL (clmL ks rows at_ look))) (y := .list []) (ev_var rfl) (ev_fz (ev_lst (ds := []) (κ := .pl) ea_nil (by decide))) (gdc.shaped (by decide)) ((gd_lst (n := 0) (l := []) fun _ h => by cases h).shaped (by decide)))).is (by rw [eqv_nil]; unfold nL; simp)) (fun hb => ?_) fun hb => ws_next ?_)
  · have he := of_decide_eq_true hb
    refine ws_ret (ev_tup (κ := .pl) (ds := [.int 2, .list (partsL ks look), encN at_]) (ea_cons ev_int (ea_cons (ev_var rfl) (ea_cons (ev_var rfl) ea_nil))) (by simp)) ?_
    unfold pickL
    rw [if_pos he]
    rfl
  have hne := of_decide_eq_false hb
  have hpos := List.length_pos_iff.mpr hne
  refine ws_seq (ws_if (b := rule && decide (1 < (clmL ks rows at_ look).length)) (et_and ((et_test (ev_eqS (ev_var rfl) ev_str)).is (one_eq rule)) fun _ => (et_test (ev_gt (ev_lenL (κ := .pl) (ds := nL (clmL ks rows at_ look)) (ev_var rfl)) ev_int)).is ?_) (fun hb2 => ?_) fun hb2 => ws_next ?_)
  · rw [nL_len]
    exact decide_eq_decide.mpr ⟨fun h => by omega, fun h => by omega⟩
  · rw [Bool.and_eq_true, decide_eq_true_eq] at hb2
    refine ws_ret (ev_tup (κ := .pl) (ds := [.int 3, .list (partsL ks look), encN at_, encN ((clmL ks rows at_ look).getD 0 []), encN ((clmL ks rows at_ look).getD 1 [])]) (ea_cons ev_int (ea_cons (ev_var rfl) (ea_cons (ev_var rfl) (ea_cons (ev_ixL (κ := .pl) (ds := nL (clmL ks rows at_ look)) (ev_var rfl) ev_int (atI_nat (k := 0) (nL_get hpos))) (ea_cons (ev_ixL (κ := .pl) (ds := nL (clmL ks rows at_ look)) (ev_var rfl) ev_int (atI_nat (k := 1) (nL_get hb2.2))) ea_nil))))) (by simp)) ?_
    unfold pickL
    rw [if_neg hne, if_pos hb2]
    rfl
  have hno : ¬ (rule = true ∧ 1 < (clmL ks rows at_ look).length) := fun h => by
    rw [Bool.and_eq_false_iff, decide_eq_false_iff_not] at hb2
    rcases hb2 with h2 | h2
    · rw [h.1] at h2; cases h2
    · exact h2 h.2
  have hres : pickL ks rule rows at_ look = .go (bestL ks rows look (clmL ks rows at_ look)) := by unfold pickL; rw [if_neg hne, if_neg hno]
  rw [hres]
  refine ws_seq (ws_asg (s := .d (encN ((clmL ks rows at_ look).getD 0 []))) (ev_ixL (κ := .pl) (ds := nL (clmL ks rows at_ look)) (ev_var rfl) ev_int (atI_nat (k := 0) (nL_get hpos))) ?_)
  have h0m : (clmL ks rows at_ look).getD 0 [] ∈ clmL ks rows at_ look := by
    rw [List.getD_eq_getElem?_getD, List.getElem?_eq_getElem hpos]
    exact List.getElem_mem hpos
  refine ws_seq (ws_forL (κ := .pl) (ds := nL (clmL ks rows at_ look)) (f := fun x Γ => Γ.set 7 (some (.d x .pl))) (ev_var rfl) (fun x _ => tg_name) (fun i Γ' => ∃ b c d e best, best ∈ clmL ks rows at_ look ∧ best = ((clmL ks rows at_ look).take i).foldl (fun b n => if keyLe ks rows look n b then n else b) ((clmL ks rows at_ look).getD 0 []) ∧ Γ' = [some (dL (rwL rows)), some (dL (ksL ks)), some (dS (ruleS rule)), some (.ab (DicP (countE ks rows))), some (.d (encN at_)), some (.d (encN look) .fz), some (dL (nL (belowN rows at_))), b, some (dL (nL (clmL ks rows at_ look))), some (dL (partsL ks look)), some (.d (encN best)), c, d, e]) ⟨none, none, none, none, _, h0m, rfl, rfl⟩ ?_ ?_)
  · rintro i x Γ' hx ⟨b, c, d, e_, best, hbm, hbe, rfl⟩
    obtain ⟨n, hn, rfl⟩ : ∃ n, (clmL ks rows at_ look)[i]? = some n ∧ encN n = x := by
      unfold nL at hx
      rw [List.getElem?_map] at hx
      cases q : (clmL ks rows at_ look)[i]? with
      | none => rw [q] at hx; cases hx
      | some y => rw [q] at hx; exact ⟨y, rfl, Option.some.inj hx⟩
    have hnm := List.mem_of_getElem? hn
    obtain ⟨r1, hf1, _, _⟩ := bel_row hok (clm_mem hnm)
    obtain ⟨r2, hf2, _, _⟩ := bel_row hok (clm_mem hbm)
    have hal : EvS (tCall (spD (fun ss s => ∃ (look : List Int), ss = [.d (encN look) .fz] ∧ 1 ≤ look.length ∧ look.length ≤ 1000 ∧ s = .d (encN (aloneL look))) noX) [] E0 (tCons (tVar 5) tNil)) [some (dL (rwL rows)), some (dL (ksL ks)), some (dS (ruleS rule)), some (.ab (DicP (countE ks rows))), some (.d (encN at_)), some (.d (encN look) .fz), some (dL (nL (belowN rows at_))), some (.d (encN n)), some (dL (nL (clmL ks rows at_ look))), some (dL (partsL ks look)), some (.d (encN best)), c, d, e_] (.d (.tuple (iL (aloneL look)))) := ev_call (ea_cons (ev_var rfl) ea_nil) ⟨look, rfl, by omega, by omega, rfl⟩
    refine ws_seq (ws_asg (s := dB (clAt ks rows (aloneL look) best)) (cl _ 10 best .pl (aloneL look) _ (clm_mem hbm) (by rw [alone_len, hl]) rfl rfl rfl hal) ?_)
    refine ws_seq (ws_asg (s := dB (clAt ks rows (aloneL look) n)) (cl _ 7 n .pl (aloneL look) _ (clm_mem hnm) (by rw [alone_len, hl]) rfl rfl rfl (ev_call (ea_cons (ev_var (s := .d (encN look) .fz) rfl) ea_nil) ⟨look, rfl, by omega, by omega, rfl⟩)) ?_)
    have off : ∀ b : Bool, (if (!b) = true then (1 : Int) else 0) = offI b := fun b => by cases b <;> rfl
    have e : (clmL ks rows at_ look).take (i + 1) = (clmL ks rows at_ look).take i ++ [n] := by rw [List.take_add_one, hn]; rfl
    refine ws_if (b := keyLe ks rows look n best) (et_test (ev_leT2 (a := cntR ks rows n) (b := offR ks rows look n) (c := cntR ks rows best) (d := offR ks rows look best) (ev_tup (κ := .pl) (ds := [.int (cntR ks rows n), .int (offR ks rows look n)]) (ea_cons (count_get hf1 (ev_var rfl) (ev_var rfl)) (ea_cons ((ev_intB (ev_notV (ev_var rfl))).is (by rw [off]; rfl)) ea_nil)) (by simp)) (ev_tup (κ := .pl) (ds := [.int (cntR ks rows best), .int (offR ks rows look best)]) (ea_cons (count_get hf2 (ev_var rfl) (ev_var rfl)) (ea_cons ((ev_intB (ev_notV (ev_var rfl))).is (by rw [off]; rfl)) ea_nil)) (by simp)))) (fun hb3 => ws_asg (ev_var rfl) ⟨some (.d (encN n)), some (dB (clAt ks rows (aloneL look) best)), some (dB (clAt ks rows (aloneL look) n)), e_, n, hnm, ?_, rfl⟩) fun hb3 => ws_next ⟨some (.d (encN n)), some (dB (clAt ks rows (aloneL look) best)), some (dB (clAt ks rows (aloneL look) n)), e_, best, hbm, ?_, rfl⟩
    · rw [e, List.foldl_append, ← hbe]
      simp [hb3]
    · rw [e, List.foldl_append, ← hbe]
      simp [hb3]
  · rintro Γ' ⟨b, c, d, e, best, hbm, hbe, rfl⟩
    rw [nL_len, List.take_length] at hbe
    refine ws_ret (ev_tup (κ := .pl) (ds := [.int 1, encN best]) (ea_cons ev_int (ea_cons (ev_var rfl) ea_nil)) (by simp)) ?_
    rw [hbe]
    rfl
end TG
set_option Elab.async false
set_option linter.all false
set_option maxRecDepth 100000
set_option maxHeartbeats 4000000
/-! W23: the law's end, through, weighed. -/
namespace TG
open PySem PySem.Spec PyProof.Rows L2
variable {P : Program} {w : World} {K : KF} {mg : Str → Option Value} {base : Heap}
def oneOf (rows : List Rw) (n : List Int) : Bool := match fnds rows n with
  | some r => r.one
  | none => true
def endL (ks : List Knd) (rows : List Rw) (look : List Int) : Nat → Bool → List Int → PR
  | 0, _, at_ => .go at_
  | f + 1, rule, at_ => if belowN rows at_ = [] then .go at_ else match pickL ks rule rows at_ look with
    | .go n => endL ks rows look f (oneOf rows n) n
    | .no a => .no a
    | .two a b c => .two a b c
theorem endL_succ (ks : List Knd) (rows : List Rw) (look : List Int) (f : Nat) (rule : Bool) (at_ : List Int) : endL ks rows look (f + 1) rule at_ = if belowN rows at_ = [] then .go at_ else match pickL ks rule rows at_ look with
    | .go n => endL ks rows look f (oneOf rows n) n
    | .no a => .no a
    | .two a b c => .two a b c := rfl
theorem best_mem (ks : List Knd) (rows : List Rw) (look : List Int) : ∀ (cs : List (List Int)) (b : List Int), cs.foldl (fun b n => if keyLe ks rows look n b then n else b) b = b ∨ cs.foldl (fun b n => if keyLe ks rows look n b then n else b) b ∈ cs
  | [], b => .inl rfl
  | c :: cs, b => by
    rw [List.foldl_cons]
    rcases best_mem ks rows look cs (if keyLe ks rows look c b then c else b) with h | h
    · rw [h]
      split
      · exact .inr (List.mem_cons_self ..)
      · exact .inl rfl
    · exact .inr (List.mem_cons_of_mem _ h)
theorem pickL_mem {ks : List Knd} {rule : Bool} {rows : List Rw} {at_ look n : List Int} (hok : RowsOk rows) (h : pickL ks rule rows at_ look = .go n) : n ∈ belowN rows at_ ∧ n ≠ [] := by
  unfold pickL at h
  split at h
  · cases h
  · next hne =>
    split at h
    · cases h
    · cases h
      have hp := List.length_pos_iff.mpr hne
      have hm : bestL ks rows look (clmL ks rows at_ look) ∈ clmL ks rows at_ look := by
        unfold bestL
        rcases best_mem ks rows look (clmL ks rows at_ look) ((clmL ks rows at_ look).getD 0 []) with e | e
        · rw [e, List.getD_eq_getElem?_getD, List.getElem?_eq_getElem hp]
          exact List.getElem_mem hp
        · exact e
      have hb := clm_mem hm
      obtain ⟨r, _, hr, e⟩ := bel_row hok hb
      exact ⟨hb, by rw [← e]; exact hok.ne r hr⟩
def endR (ks : List Knd) (one : Bool) (rows : List Rw) (look : List Int) : PR := endL ks rows look 5 one []
theorem ok_Lend (T : Txt K mg) : FnOk P w K mg base CX0 8 825 (fdOf K 825) ["_law_rows_here", "_law_kinds_here", "_law_root", "_law_counts_here", "_law_look"] (spD (fun ss s => ∃ (rows : List Rw) (ks : List Knd) (one : Bool) (look : List Int), ss = [dL (rwL rows), dL (ksL ks), dS (ruleS one), .ab (DicP (countE ks rows)), .d (encN look) .fz] ∧ RowsOk rows ∧ KsOk ks ∧ look.length = ks.length ∧ s = .d (encPR ks look (endR ks one rows look))) noX) := by
  refine Fun.okD (f_Lend T) sc_Lend (fun ss s ⟨_, _, _, _, h, _⟩ => by rw [h]; rfl) fun cdv A outer h H E hr ss s ⟨rows, ks, one, look, hs, hok, hk, hl, hv⟩ => ?_
  have hu64 : A.units + 3 + 64 < cLine := hr.units
  subst hs hv
  refine ⟨_, (pss_cons (ps_set (i := 5) sc_Lend.nd rfl (Or.inl rfl) (pe_tup pa_nil))
      (pss_cons (ps_set (i := 6) sc_Lend.nd rfl (Or.inl rfl) (pv 2))
      (pss_cons (ps_while PassesOwn.never (pt_cmpR (op_neD hu64) (pe_call (ok_Lbeneath T) (hr.mono (by decide)) rfl (g_Lbeneath T) (f_Lbeneath T).kp (b_Lbeneath T) .nil pass0 (pa_cons (pv 0) (pa_cons (pv 5) pa_nil))) (pe_lst pa_nil) (nomark _))
      (pss_cons (ps_set (i := 7) sc_Lend.nd rfl (Or.inl rfl) (pe_call (ok_Lpick T) (hr.mono (by decide)) rfl (g_Lpick T) (f_Lpick T).kp (b_Lpick T) .nil pass0 (pa_cons (pv 0) (pa_cons (pv 1) (pa_cons (pv 6) (pa_cons (pv 3) (pa_cons (pv 5) (pa_cons (pv 4) pa_nil))))))))
      (pss_cons (ps_if (pt_cmpR op_ne (pe_ix ix_tup (pv 7) pe_int (fun _ _ => rfl)) pe_int (nomark _)) (pss_one (ps_ret (pv 7))) pss_nil)
      (pss_cons (ps_set (i := 5) sc_Lend.nd rfl (Or.inl rfl) (pe_ix ix_tup (pv 7) pe_int (fun _ _ => rfl)))
      (pss_one (ps_set (i := 6) sc_Lend.nd rfl (Or.inl rfl) (pe_ix ix_tup (pe_call (ok_Lrowof T) (hr.mono (by decide)) rfl (g_Lrowof T) (f_Lrowof T).kp (b_Lrowof T) .nil pass0 (pa_cons (pv 0) (pa_cons (pv 5) pa_nil))) pe_int (fun _ _ => rfl))))))))
      (pss_one (ps_ret (pe_tup (pa_cons pe_int (pa_cons (pv 5) pa_nil)))))))), fun B0 H0 => ?_⟩
  refine ws_seq (ws_asg (s := .d (encN [])) (ev_tup (κ := .pl) (ds := []) ea_nil (Nat.zero_le _)) ?_)
  refine ws_seq (ws_asg (ev_var rfl) ?_)
  refine ws_seq (ws_while (fun m Γ' => ∃ (at_ : List Int) (rule : Bool) (o : Option Sl), m + at_.length = 5 ∧ atOk rows at_ ∧ Γ' = [some (dL (rwL rows)), some (dL (ksL ks)), some (dS (ruleS one)), some (.ab (DicP (countE ks rows))), some (.d (encN look) .fz), some (.d (encN at_)), some (dS (ruleS rule)), o] ∧ endL ks rows look m rule at_ = endR ks one rows look) 5 ⟨[], one, none, rfl, .inl rfl, rfl, rfl⟩ ?_)
  rintro m Γ' ⟨at_, rule, o, hm, hat, rfl, h2⟩
  have h4 := atOk_len hok hat
  obtain ⟨f, rfl⟩ : ∃ f, m = f + 1 := ⟨m - 1, by omega⟩
  rw [endL_succ ks rows look f rule at_] at h2
  refine ⟨!decide (belowN rows at_ = []), ?_, fun hb => ?_, fun hb => ?_⟩
  · refine (et_test (ev_neD (κ := .pl) (κ' := .pl) (ev_fz (ev_call (ea_cons (ev_var rfl) (ea_cons (ev_var rfl) ea_nil)) ⟨rows, at_, rfl, hok, rfl⟩)) (ev_fz (ev_lst (ds := []) (κ := .pl) ea_nil (by decide))) ((gd_lst (n := 1) fun d hd => ?_).shaped (by decide)) ((gd_lst (n := 0) (l := []) fun _ h => by cases h).shaped (by decide)))).is ?_
    · obtain ⟨n, _, rfl⟩ := List.mem_map.mp hd
      exact gd_N n
    · rw [eqv_nil]
      congr 1
      unfold nL
      simp
  · have hne : belowN rows at_ ≠ [] := by simpa using hb
    rw [if_neg hne] at h2
    refine ws_seq (ws_asg (ev_call (ea_cons (ev_var rfl) (ea_cons (ev_var rfl) (ea_cons (ev_var rfl) (ea_cons (ev_var rfl) (ea_cons (ev_var rfl) (ea_cons (ev_var (s := .d (encN look) .fz) rfl) ea_nil)))))) ⟨rows, ks, rule, at_, look, rfl, hok, hk, hl, rfl⟩) ?_)
    cases hp : pickL ks rule rows at_ look with
    | no a =>
      rw [hp] at h2
      refine ws_seq (ws_if (b := true) ((et_test (ev_neI (ev_sc (ev_ixT (ds := [.int 2, .list (partsL ks look), encN a]) (ev_var rfl) ev_int rfl)) ev_int)).is rfl) (fun _ => ws_ret (ev_var rfl) ?_) fun h => by cases h)
      rw [← h2]
    | two a b c =>
      rw [hp] at h2
      refine ws_seq (ws_if (b := true) ((et_test (ev_neI (ev_sc (ev_ixT (ds := [.int 3, .list (partsL ks look), encN a, encN b, encN c]) (ev_var rfl) ev_int rfl)) ev_int)).is rfl) (fun _ => ws_ret (ev_var rfl) ?_) fun h => by cases h)
      rw [← h2]
    | go n =>
      rw [hp] at h2
      obtain ⟨hq1, hq2⟩ := pickL_mem hok hp
      have hql := bel_len hq1 hq2
      obtain ⟨r, hf, _, _⟩ := bel_row hok hq1
      have ho : oneOf rows n = r.one := by unfold oneOf; rw [hf]
      refine ws_seq (ws_if (b := false) ((et_test (ev_neI (ev_sc (ev_ixT (ds := [.int 1, encN n]) (ev_var rfl) ev_int rfl)) ev_int)).is rfl) (fun h => by cases h) fun _ => ws_next ?_)
      refine ws_seq (ws_asg (s := .d (encN n)) (ev_ixT (ds := [.int 1, encN n]) (ev_var rfl) ev_int rfl) ?_)
      refine ws_asg (row_one (r := r) (ev_call (ea_cons (ev_var rfl) (ea_cons (ev_var rfl) ea_nil)) ⟨rows, n, r, rfl, hf, rfl⟩)) ⟨f, by omega, n, r.one, some (.d (encPR ks look (.go n))), by omega, bel_ok hok hq1 hq2, rfl, by rw [← ho]; exact h2⟩
  · have he : belowN rows at_ = [] := by simpa using hb
    rw [if_pos he] at h2
    refine ws_ret (ev_tup (κ := .pl) (ds := [.int 1, encN at_]) (ea_cons ev_int (ea_cons (ev_var rfl) ea_nil)) (by simp)) ?_
    rw [← h2]
    rfl
def audL' (ks : List Knd) (one : Bool) (rows : List Rw) (ls : List (List Int)) : List PyData := ls.map fun l => audE l (goN (endR ks one rows l))
theorem ok_Lthrough (T : Txt K mg) : FnOk P w K mg base CX0 9 865 (fdOf K 865) ["_law_rows_here", "_law_kinds_here", "_law_root", "_law_counts_here"] (spD (fun ss s => ∃ (rows : List Rw) (ks : List Knd) (one : Bool), ss = [dL (rwL rows), dL (ksL ks), dS (ruleS one), .ab (DicP (countE ks rows))] ∧ RowsOk rows ∧ KsOk ks ∧
    (((∀ l ∈ allLooks ks.length, ∃ n, endR ks one rows l = .go n) ∧ s = .d (.tuple [.int 1, .list (audL' ks one rows (allLooks ks.length))]) .an) ∨
      ∃ (j : Nat) (l : List Int), (allLooks ks.length)[j]? = some l ∧ (∀ i < j, ∀ l, (allLooks ks.length)[i]? = some l → ∃ n, endR ks one rows l = .go n) ∧ (∀ n, endR ks one rows l ≠ .go n) ∧ s = .d (encPR ks l (endR ks one rows l)) .an)) noX) := by
  refine Fun.okD (f_Lthrough T) sc_Lthrough (fun ss s ⟨_, _, _, h, _⟩ => by rw [h]; rfl) fun cdv A outer h H E hr ss s ⟨rows, ks, one, hs, hok, hk, hv⟩ => ?_
  subst hs
  have hkl := hk.le
  have hsz := allLooks_size hk.le
  refine ⟨_, (pss_cons (ps_set (i := 4) sc_Lthrough.nd rfl (Or.inl rfl) (pe_lst pa_nil))
      (pss_cons (ps_for PassesOwn.never rfl (pi_list (pe_call (ok_alllooks T) (hr.mono (by decide)) rfl (g_alllooks T) (f_alllooks T).kp (b_alllooks T) .nil pass0 (pa_cons (pe_callB call_len rfl (z_len T) PySem.boot_len (pa_cons (pv 1) pa_nil)) pa_nil))) (pg_name (i := 5) sc_Lthrough.nd rfl (Or.inl rfl))
      (pss_cons (ps_set (i := 6) sc_Lthrough.nd rfl (Or.inl rfl) (pe_call (ok_Lend T) (hr.mono (by decide)) rfl (g_Lend T) (f_Lend T).kp (b_Lend T) .nil pass0 (pa_cons (pv 0) (pa_cons (pv 1) (pa_cons (pv 2) (pa_cons (pv 3) (pa_cons (pv 5) pa_nil)))))))
      (pss_cons (ps_if (pt_cmpR op_ne (pe_ix ix_tup (pv 6) pe_int (fun _ _ => rfl)) pe_int (nomark _)) (pss_one (ps_ret (pv 6))) pss_nil)
      (pss_one (ps_expr (pe_bm PySem.F.plainAttrs_list PySem.F.slot_list_append PySem.F.type_list_append mt_append (pv 4) (pa_cons (pe_tup (pa_cons (pv 5) (pa_cons (pe_ix ix_tup (pv 6) pe_int (fun _ _ => rfl)) pa_nil))) pa_nil)))))))
      (pss_one (ps_ret (pe_tup (pa_cons pe_int (pa_cons (pv 4) pa_nil))))))), fun B0 H0 => ?_⟩
  have nLg : ∀ {ls : List (List Int)} {i : Nat} {x : PyData}, (nL ls)[i]? = some x → ∃ l, ls[i]? = some l ∧ encN l = x := fun {ls i x} h => by
    unfold nL at h
    rw [List.getElem?_map] at h
    cases q : ls[i]? with
    | none => rw [q] at h; cases h
    | some y => rw [q] at h; exact ⟨y, rfl, Option.some.inj h⟩
  refine ws_seq (ws_asg (ev_lst (ds := []) (κ := .an) ea_nil (Nat.zero_le _)) ?_)
  refine ws_seq (ws_forL (κ := .fz) (ds := nL (allLooks ks.length)) (f := fun x Γ => Γ.set 5 (some (.d x .fz))) (ev_fz (ev_call (ea_cons ((ev_lenL (ds := ksL ks) (ev_var rfl)).is (by rw [ksL_len])) ea_nil) ⟨ks.length, rfl, hk.pos, hk.le, rfl⟩)) (fun x _ => tg_name)
    (fun i Γ' => (∃ a b, Γ' = [some (dL (rwL rows)), some (dL (ksL ks)), some (dS (ruleS one)), some (.ab (DicP (countE ks rows))), some (.own (audL' ks one rows ((allLooks ks.length).take i)) .an), a, b]) ∧ ∀ i' < i, ∀ l, (allLooks ks.length)[i']? = some l → ∃ n, endR ks one rows l = .go n) ⟨⟨none, none, rfl⟩, fun _ h => absurd h (Nat.not_lt_zero _)⟩ ?_ ?_)
  · rintro i x Γ' hx ⟨⟨a, b, rfl⟩, hpre⟩
    obtain ⟨l, hl, rfl⟩ := nLg hx
    have hm := List.mem_of_getElem? hl
    have hil := (List.getElem?_eq_some_iff.mp hl).1
    refine ws_seq (ws_asg (ev_call (ea_cons (ev_var rfl) (ea_cons (ev_var rfl) (ea_cons (ev_var rfl) (ea_cons (ev_var rfl) (ea_cons (ev_var (s := .d (encN l) .fz) rfl) ea_nil))))) ⟨rows, ks, one, l, rfl, hok, hk, allLooks_len hm, rfl⟩) ?_)
    have bad : (∀ n, endR ks one rows l ≠ .go n) → s = .d (encPR ks l (endR ks one rows l)) .an := fun hno => by
      rcases hv with ⟨hall, _⟩ | ⟨j, l', hj, hp, hn, rfl⟩
      · obtain ⟨n, hn⟩ := hall l hm
        exact absurd hn (hno n)
      · rcases Nat.lt_trichotomy i j with hij | rfl | hij
        · obtain ⟨n, hn⟩ := hp i hij l hl
          exact absurd hn (hno n)
        · rw [hj] at hl; cases hl; rfl
        · obtain ⟨n, hn'⟩ := hpre j hij l' hj
          exact absurd hn' (hn n)
    cases hp : endR ks one rows l with
    | no a' =>
      refine ws_seq (ws_if (b := true) ((et_test (ev_neI (ev_sc (ev_ixT (ds := [.int 2, .list (partsL ks l), encN a']) (ev_var rfl) ev_int rfl)) ev_int)).is rfl) (fun _ => ws_ret (ev_any (ev_var rfl)) ?_) fun h => by cases h)
      rw [bad (fun n e => by rw [hp] at e; cases e), hp]
    | two a' b' c' =>
      refine ws_seq (ws_if (b := true) ((et_test (ev_neI (ev_sc (ev_ixT (ds := [.int 3, .list (partsL ks l), encN a', encN b', encN c']) (ev_var rfl) ev_int rfl)) ev_int)).is rfl) (fun _ => ws_ret (ev_any (ev_var rfl)) ?_) fun h => by cases h)
      rw [bad (fun n e => by rw [hp] at e; cases e), hp]
    | go n =>
      refine ws_seq (ws_if (b := false) ((et_test (ev_neI (ev_sc (ev_ixT (ds := [.int 1, encN n]) (ev_var rfl) ev_int rfl)) ev_int)).is rfl) (fun h => by cases h) fun _ => ws_next ?_)
      refine ws_app (κ := .an) rfl (ev_tup (κ := .an) (ds := [encN l, encN n]) (ea_cons (ev_any (ev_var (s := .d (encN l) .fz) rfl)) (ea_cons (ev_any (ev_ixT (ds := [.int 1, encN n]) (d := encN n) (κ := .pl) (ev_var rfl) ev_int rfl)) ea_nil)) (by simp)) ?_ ⟨⟨some (.d (encN l) .fz), some (.d (encPR ks l (.go n))), ?_⟩, fun i' hi' l' hl' => ?_⟩
      · have := List.length_take_le i (allLooks ks.length)
        simp only [audL', List.length_map]
        omega
      · rw [List.take_add_one, hl]
        simp only [Option.toList_some, audL', List.map_append, List.map_cons, List.map_nil, hp, goN, audE]
        rfl
      · rcases Nat.lt_succ_iff_lt_or_eq.mp hi' with h | rfl
        · exact hpre i' h l' hl'
        · rw [hl] at hl'; cases hl'; exact ⟨n, hp⟩
  · rintro Γ' ⟨⟨a, b, rfl⟩, hpre⟩
    rw [nL_len] at hpre ⊢
    rw [List.take_length]
    refine ws_freeze (i := 4) (κ := .an) rfl (ws_ret (ev_tup (κ := .an) (ds := [.int 1, .list (audL' ks one rows (allLooks ks.length))]) (ea_cons (ev_sc (ev_int (i := 1))) (ea_cons (ev_var rfl) ea_nil)) (by simp)) ?_)
    rcases hv with ⟨_, rfl⟩ | ⟨j, l', hj, _, hn, _⟩
    · rfl
    · obtain ⟨n, hn'⟩ := hpre j (List.getElem?_eq_some_iff.mp hj).1 l' hj
      exact absurd hn' (hn n)
theorem ok_Lweighed (T : Txt K mg) : FnOk P w K mg base CX0 1 858 (fdOf K 858) ["_law_kinds_here", "_law_parts_here"] (spD (fun ss s => ∃ (ks : List Knd) (l : List Prt), ss = [dL (ksL ks), dL (pL l)] ∧ KsOk ks ∧ goodL ks l ∧ s = .own (iL (wgt ks l))) noX) := by
  refine Fun.okD (f_Lweighed T) sc_Lweighed (fun ss s ⟨_, _, h, _⟩ => by rw [h]; rfl) fun cdv A outer h H E hr ss s ⟨ks, l, hs, hk, hg, hv⟩ => ?_
  have hu65 := hu65_of hr
  subst hs hv
  have hkl := hk.le
  refine ⟨_, (pss_cons (ps_setLc (i := 2) (own := [("_law_kind", 7)]) rfl sc_Lweighed.nd rfl rfl (sw_true rfl rfl rfl (by decide +kernel)) (pi_list (pv 0)) (blkOk_by (own := [("_law_kind", 7)]) (N := N_Lweighed) (sc := defScope s_Lweighed) (by decide +kernel)) (fun _ _ _ _ _ => pg_name (i := 7) sc_Lweighed.nd rfl (Or.inl rfl)) (fun _ _ _ _ _ => pts_nil) (fun _ _ _ _ _ => pe_int))
      (pss_cons (ps_for PassesOwn.never rfl (pi_list (pv 1)) (pg_tup rfl (pgs_cons (pg_name (i := 3) sc_Lweighed.nd rfl (Or.inl rfl)) (pgs_cons (pg_name (i := 4) sc_Lweighed.nd rfl (Or.inl rfl)) (pgs_cons (pg_name (i := 5) sc_Lweighed.nd rfl (Or.inl rfl)) pgs_nil))))
      (pss_cons (ps_set (i := 6) sc_Lweighed.nd rfl (Or.inl rfl) (pe_bm PySem.F.plainAttrs_list PySem.F.slot_list_index PySem.F.type_list_index (mt_indexD hu65) (pv 0) (pa_cons (pe_tup (pa_cons (pv 3) (pa_cons (pv 4) pa_nil))) pa_nil)))
      (pss_one (ps_asg (pe_op op_add (pe_ix ix_list (pv 2) (pv 6) (fun _ _ => rfl)) (pv 5)) (pg_sub (pv 2) (pv 6) set_list)))))
      (pss_one (ps_ret (pv 2))))), fun B0 H0 => ?_⟩
  have hll : (pL l).length = l.length := by simp [pL]
  refine ws_seq (ws_asg (s := .own (iL (List.replicate ks.length 0))) ((ev_lcL (κ := .pl) (κ' := .pl) (ds := ksL ks) (fun _ => true) (fun _ => .int 0) (ev_var rfl) (List.mem_cons_self ..) (by rw [ksL_len]; omega) (fun d hd => et_yes) (fun d hd _ => ev_int)).is (by rw [zeros])) ?_)
  refine ws_seq (ws_forL (κ := .pl) (ds := pL l) (f := fun x Γ => match x with | .tuple [a, b, c] => ((Γ.set 3 (some (.d a))).set 4 (some (.d b))).set 5 (some (.d c)) | _ => Γ) (ev_var rfl) (fun x hx => ?_) (fun i Γ' => ∃ a b c d e, Γ' = [some (dL (ksL ks)), some (dL (pL l)), some (.own (iL (wgt ks (l.take i)))), a, b, c, d, e]) ⟨none, none, none, none, none, rfl⟩ ?_ ?_)
  · obtain ⟨p, _, rfl⟩ := List.mem_map.mp hx
    exact tg_tup3
  · rintro i x Γ' hx ⟨a, b, c, d, e, rfl⟩
    obtain ⟨p, hp, rfl⟩ := pL_get hx
    have hm := List.mem_of_getElem? hp
    obtain ⟨h1, h2⟩ := hg p hm
    have hkn := hk.nm p.1 h1
    refine ws_seq (ws_asg (s := dI (ks.idxOf p.1 : Nat)) (ev_indexD (κ := .pl) (κ' := .pl) (x := kD p.1) (d := kD p.1) (ds := ksL ks) (ev_var rfl) (ev_tup (κ := .pl) (ds := [.str p.1.1, .str p.1.2]) (ea_cons (ev_var rfl) (ea_cons (ev_var rfl) ea_nil)) (by simp)) ((gd_k (ok_knd hkn)).shaped (by decide)) ((gd_ks fun q hq => ok_knd (hk.nm q hq)).shaped (by decide)) (idx_k h1) (by rw [eqv_k]; simp) idx_kno) ?_)
    have hix : ks.idxOf p.1 < (wgt ks (l.take i)).length := by rw [wgt_len]; exact List.idxOf_lt_length_of_mem h1
    refine ws_setI (i := 2) (κ := .pl) (xs := iL (wgt ks (l.take i))) (j := ks.idxOf p.1) rfl (ev_thaw (i := 2) (κ := .pl) (xs := iL (wgt ks (l.take i))) rfl (ev_add (ev_ixL (κ := .pl) (ds := iL (wgt ks (l.take i))) (ev_var rfl) (ev_var rfl) (atI_nat (i_get hix))) (ev_var rfl)) rfl) (ev_var rfl) (by rw [iL_len]; exact hix) ⟨some (.d (.str p.1.1)), some (.d (.str p.1.2)), some (.d (.int p.2)), some (dI (ks.idxOf p.1 : Nat)), e, ?_⟩
    rw [iL_set]
    have et : l.take (i + 1) = l.take i ++ [p] := by rw [List.take_add_one, hp]; rfl
    rw [et, wgt_snoc]
    rfl
  · rintro Γ' ⟨a, b, c, d, e, rfl⟩
    rw [hll, List.take_length]
    exact ws_retOwn rfl rfl
end TG
set_option Elab.async false
set_option linter.all false
set_option maxRecDepth 100000
set_option maxHeartbeats 4000000
/-! FTry: try with several clauses, each "except C as n" (turned from the library's two rules: one clause with a name, many without). -/
namespace TG
open PySem PySem.Spec PyProof.Rows L2
abbrev Cls1 := Value × (Addr → Value → Option Addr → TS)
/-- the ends of a clause's suite, slot i forgotten -/
abbrev Ends.bar (D : Ends) (i : Nat) : Ends := { nx := fun σ H => D.nx (σ.set i none) H, rt := D.rt, bk := fun σ H => D.bk (σ.set i none) H, ct := fun σ H => D.ct (σ.set i none) H }
def wAsM (K : PySem.W.Frag) (i : Nat) (Wo : WX) (D : Ends) : List Cls1 → WX
  | [] => Wo
  | q :: r => fun cls d σ H => ∃ y, PySem.W.exmOne K cls q.1 = some y ∧ (y = true → ∀ a, H a = none → q.2 a cls d (Ends.bar D i) (σ.set i (some (.ref a))) H) ∧ (y = false → wAsM K i Wo D r cls d σ H)
inductive AsOk (X : Cx) (n : Str) : List ExceptHandler → List Cls1 → Prop
  | nil : AsOk X n [] []
  | cons {x : Str} {c : Value} {ts : Addr → Value → Option Addr → TS} {st : Stmt} {sts : List Stmt} {p1 p2 : Pos} {hs : List ExceptHandler} {l : List Cls1} (hc : Names X x c)
      (hsu : ∀ (a : Addr) (oe : Obj) (cls : Value) (d : Option Addr) (pn : List (Addr × Obj)), Zc cls d oe → (∃ vs, oe.data = .fields vs) → PSs (X.suite a ((a, oe) :: pn)) (st :: sts) (ts a cls d)) (r : AsOk X n hs l) :
      AsOk X n (.ExceptHandler (some (.Name x p1)) (some n) (st :: sts) p2 :: hs) ((c, ts) :: l)
section
variable {X : Cx} {body : List Stmt} {h1 : ExceptHandler} {hs : List ExceptHandler} {l : List Cls1} {pos : Pos} {tb : WX → TS} {Wo : WX} {i : Nat} {n : Str}
theorem ps_try_asM (stk : X.stack = X.env :: X.outer) (frm : X.env.frame = some X.env.locals) (nod : X.N.Nodup) (hi : X.N[i]? = some n) (loc : X.env.kindOf n = some .local) (tk : Takes X Wo)
    (hb : ∀ (W : WX) (pn : List (Addr × Obj)) (xe : Value → Shared → Prop), Takes (X.tr pn xe) W → PassesOwn (model X.prog X.w) X.A X.env xe → PSs (X.tr pn xe) body (tb W)) (hh : AsOk X n (h1 :: hs) l) :
    PS X (.Try body (h1 :: hs) [] [] pos) (fun D σ H => tb (wAsM X.K i Wo D l) D σ H) := by
  refine ⟨fun pins s σ H D I hw => wpAny_Try_except (wpAny_mono ((hb (wAsM X.K i Wo D l) (X.pn ++ pins) (fun e s1 => wpAny (model X.prog X.w) X.A (noteFrame e X.env) (fun _ s2 => wpAny (model X.prog X.w) X.A (setFlight e none)
    (fun _ s3 => wpAny (model X.prog X.w) X.A (handleBy e X.env (h1 :: hs)) (SP X pins D) X.xe s3) X.xe s2) X.xe s1) (fun u s' got => ?_) PassesOwn.looking).run [] s σ H D (I.toTry _) hw) (fun f s1 fin => ?_) fun _ _ z => z)⟩
  · have allOk := I.ok
    have fra : X.A.frames = some (X.env :: X.outer) := by rw [allOk.frames, stk]
    obtain ⟨a, B, sB, pB, σ1, H1, cls, d, rfl, JB, nb, up, sky, na, os, ag, wish⟩ := got
    have J := JB.ofTry allOk
    have sky2 : Sky B (X.env :: X.outer) a (Zc cls d) X.env.locals s'.heap := by rw [← stk]; exact sky
    show wpAny (model X.prog X.w) X.A (noteFrame (.ref a) X.env) _ _ _
    refine Sky.land Zc.steady fra frm sky2 fun g3 fl3 up3 => ?_
    have J3 : Inv X pins σ1 H1 { s' with heap := g3 } := J.landed nb fl3.1 (up.trans up3) os ag
    obtain ⟨o3, v3, e3, z3, d3⟩ := fl3.there
    have noFr : a ∉ frs (X.env :: X.outer) := fun m => by
      obtain ⟨_, o', e', dd⟩ := (fl3.2.2.1).mem m
      rw [e3] at e'
      cases e'
      exact dd _ d3
    have nLoc : a ≠ X.env.locals := fun z => noFr (List.mem_filterMap.mpr ⟨X.env, List.mem_cons_self, by rw [frm, z]⟩)
    have nOut : a ∉ X.fs := fun m => let ⟨e, he, q⟩ := List.mem_filterMap.mp m; noFr (List.mem_filterMap.mpr ⟨e, List.mem_cons_of_mem _ he, q⟩)
    have S3 := J3.suite e3 d3 na nLoc nOut
    have each : ∀ {hs' : List ExceptHandler} {l' : List Cls1}, AsOk X n hs' l' → wAsM X.K i Wo D l' cls d σ1 H1 → wpAny (model X.prog X.w) X.A (handleBy (.ref a) X.env hs') (SP X pins D) X.xe { s' with heap := g3 } := by
      intro hs' l' ok
      induction ok with
      | nil =>
        intro wish
        refine wpAny_handleBy_nil ?_
        obtain ⟨_, _, _, oe, vs, t0, _, _, q1, q2, q3, q4, _⟩ := id fl3
        unfold PySem.passOn
        refine wpAny_bind (wpAny_field q1 q3 q4 ?_)
        rw [if_neg (show ¬ ((Value.ref t0 == Value.none) = true) from by simp)]
        have go : wpAny (model X.prog X.w) X.A (setFlight (.ref a) X.env.frame) (fun _ s4 => wpAny (model X.prog X.w) X.A (throw (.ref a) : Sem Flow) (SP X pins D) X.xe s4) X.xe { s' with heap := g3 } := by
          rw [frm]
          exact HandSPX.setFlight_upZ fl3 fun g4 hh4 up4 => wpAny_throw (tk _ _ ⟨a, B, sB, pins, σ1, H1, cls, d, rfl, J, nb, (up.trans up3).trans up4, .inr (.inr (by rw [stk]; exact hh4)), na, os, ag, wish⟩)
        first
          | exact wpAny_bind (wpAny_pure (wpAny_bind go))
          | exact wpAny_bind go
      | @cons x c ts st sts p1 p2 hs2 l2 hc hsu _ ih =>
        rintro ⟨y, hy, yes, no⟩
        refine wpAny_handleBy_cons (codeAny_handlers_test ?_) (by intro q; cases q)
        have LM := PySem.W.exm_one (M := model X.prog X.w) (h := g3) J3.kIn (fun A Q E s k q => wpAny_typeOf_ref (k _ _ e3) (by rw [z3.1]; exact q)) hy
        have named : ∀ {Q : Value → Shared → Prop} {E : Value → Shared → Prop}, Q c { s' with heap := g3 } → wpAny (model X.prog X.w) (X.A.mark (some (.ref a))) (eval (.Name x p1) X.env) Q E { s' with heap := g3 } := fun {Q E} q => by
          obtain ⟨t1, t2, t3 | ⟨t3, t4, t5⟩⟩ := hc
          · exact ld_glob (X := X.suite a ((a, o3) :: (X.pn ++ pins))) S3 t1 t3 q t2
          · exact ld_blt (X := X.suite a ((a, o3) :: (X.pn ++ pins))) S3 t1 t3 t4 q t5 t2
        refine named (LM.here ?_)
        cases y with
        | false => exact ih (no rfl)
        | true =>
          refine codeAny_handlers_suite_as (HandSPX.lands_againZ fl3 fun g4 fl4 up4 => ?_)
          have J4 : Inv X pins σ1 H1 { s' with heap := g4 } := J.landed nb fl4.1 ((up.trans up3).trans up4) os ag
          obtain ⟨o4, v4, e4, z4, d4⟩ := fl4.there
          refine store_ok (X := X.suite a ((a, o4) :: (X.pn ++ pins))) (v := .ref a) (J4.suite e4 d4 na nLoc nOut) nod hi (.inl loc) rfl (fun s5 S5 => ?_) (.inr loc)
          refine wpAny_mono ((hsu a o4 cls d (X.pn ++ pins) z4 ⟨_, d4⟩).run [] s5 _ H1 _ S5 (yes rfl a na)) (fun f s6 fin => ?_) fun _ _ z => z.elim
          have away : ∀ {σ6 : L2.St} {H6 : Hp} {Q : Shared → Prop}, Inv (X.suite a ((a, o4) :: (X.pn ++ pins))) [] σ6 H6 s6 → (∀ s7, Inv X pins (σ6.set i none) H6 s7 → Q s7) → wpAny (model X.prog X.w) X.A (do bindName X.env n .none; unbindBehindTheSuite X.env n p2) (fun _ s7 => Q s7) X.xe s6 :=
            fun S6 k => gone_ok (S6.unsuite allOk) nod hi loc k
          cases f with
          | next => obtain ⟨σ6, H6, S6, k6⟩ := fin; exact away S6 fun s7 J7 => ⟨_, _, J7, k6⟩
          | brk => obtain ⟨σ6, H6, S6, k6⟩ := fin; exact away S6 fun s7 J7 => ⟨_, _, J7, k6⟩
          | cont => obtain ⟨σ6, H6, S6, k6⟩ := fin; exact away S6 fun s7 J7 => ⟨_, _, J7, k6⟩
          | ret u => obtain ⟨w6, σ6, H6, S6, r6, k6⟩ := fin; exact away S6 fun s7 J7 => ⟨_, _, _, J7, r6, k6⟩
    exact each hh wish
  · have allOk := I.ok
    cases f with
    | next => obtain ⟨σ1, H1, J, k⟩ := fin; exact wpAny_execs_nil ⟨σ1, H1, J.ofTry allOk, k⟩
    | brk => obtain ⟨σ1, H1, J, k⟩ := fin; exact ⟨σ1, H1, J.ofTry allOk, k⟩
    | cont => obtain ⟨σ1, H1, J, k⟩ := fin; exact ⟨σ1, H1, J.ofTry allOk, k⟩
    | ret u => obtain ⟨v, σ1, H1, J, r, k⟩ := fin; exact ⟨v, σ1, H1, J.ofTry allOk, r, k⟩
end
end TG
set_option Elab.async false
set_option linter.all false
set_option maxRecDepth 100000
set_option maxHeartbeats 4000000
/-! W24: the law's audit, heading, wrong goods: what their trys catch. -/
namespace TG
open PySem PySem.Spec PyProof.Rows L2
def tCallW (sp : Sp) (W : WX) (t : TA) : TE := fun σ H Q => t σ H fun vs H1 => sp vs H1 Q (fun cls d H' => W cls d σ H')
section
variable {X : Cx} {k : Nat} {f : Addr} {fd : FuncData} {ps : List Str} {sp : Sp} {W : WX} {x : Str} {p pos : Pos} {e : Expr} {es : List Expr} {t : TA}
/-- a def that raises, called within a try: the wish knows the slots -/
theorem pe_callW (F : FnOk X.prog X.w X.K X.mg X.base (L2.CX X.prog X.w) k f fd ps sp) (hr : Room k X.A) (hg : Gl X x) (hm : X.mg x = some (.ref f)) (hk : PySem.W.keepIn X.K (.ref f) = true) (hb : Binds X.K fd ps []) (tk : Takes X W)
    (ha : PA X (e :: es) t) (hdb : (x == ("__debug__" : Str)) = false := by decide) (he : starEach (e :: es) X.env = (false, eval e X.env) :: starEach es X.env := by rfl) (hpl : (backTo pos (starEach es X.env)).any (·.1) = false := by rfl) :
    PE X (.Call (.Name x p) (e :: es) [] pos) (tCallW sp W t) := by
  refine ⟨fun pins s σ H Q I h => ?_⟩
  refine wpAny_Call_Name_kw (ld_glob I hg hm ?_ hdb)
  refine PySem.W.callWith_K (h₀ := X.base) I.ok.mod.kin hk (thn (ha.run pos pins s σ H _ I h) fun us s1 ⟨vs, H1, I1, r, q⟩ => ⟨I1.kIn, ?_⟩) he hpl
  have hl : us.length = ps.length := by rw [← r.length]; exact F.len _ _ _ _ q
  have hb2 := hb s1 us I1.kIn (by rw [List.append_nil]; exact hl)
  rw [List.append_nil] at hb2
  refine wpAny_call (codeAny_mono (F.run X.A X.stack s1 H1 ⟨us, []⟩ us vs Q _ hr I1.env0 hb2 r q) fun r s' hq => ?_)
  cases r with
  | error e => exact tk e s' (XE.of_call I1 (fun _ _ _ h => h) hq)
  | ok fl =>
    cases fl with
    | ret u => exact I1.after hq
    | next => exact False.elim hq
    | brk => exact False.elim hq
    | cont => exact False.elim hq
theorem call_isE2 {X : Cx} {a D : Addr} {oe : Obj} {cls : Value} {d : Option Addr} {pn : List (Addr × Obj)} (C : ExcC X.K D) (hz : Zc cls d oe) (hf : ∃ vs, oe.data = .fields vs) : CallR (X.suite a ((a, oe) :: pn)) (.builtin "isinstance") (fun xs H Q => (cls = .ref D ∧ d = none) ∧ rIsE X.K D a xs H Q) := by
  intro pins s σ H xs us Q I r h
  obtain ⟨⟨rfl, rfl⟩, h⟩ := h
  exact call_isE C hz hf pins s σ H xs us Q I r h
end
section
variable {K : KF} {Γ : Cxt} {te : TE} {ta : TA} {B0 H0 : Hp} {E : DE} {s : Sl}
/-- a new tuple of an int, an own list, data -/
def BoxR (H0 B H : Hp) (v : V) (t : Int) (xs ds : List PyData) : Prop := ∃ p a vs ws, v = .ref p ∧ H p = some (.tup (.int t :: .ref a :: ws)) ∧ B a = none ∧ H a = some (.lst vs) ∧ RpKA .an B vs xs ∧ RpKA .an B ws ds ∧ H0 a = none
theorem box_d {B H : Hp} {v : V} {t : Int} {xs ds : List PyData} (st : Step B0 H0 B H) (h : BoxR H0 B H v t xs ds) : ∃ B', Step B0 H0 B' H ∧ Gr B B' ∧ RpK .an B' v (.tuple (.int t :: .list xs :: ds)) := by
  obtain ⟨p, a, vs, ws, rfl, hp, hB, ha, r1, r2, h0⟩ := h
  have g1 : Gr B (upd B a (.lst vs)) := Gr.new hB
  have s1 : Step B0 H0 (upd B a (.lst vs)) H := by
    refine ⟨st.bb.trans g1, st.hh, fun b u q => ?_, fun b u q r n => ?_⟩
    · by_cases hb : b = a
      · subst hb; rw [upd_same] at q; cases q; exact ha
      · rw [upd_ne hb] at q; exact st.bh b u q
    · rw [upd_ne (ne_of_none r h0)]; exact st.fr b u q r n
  have s2 : Step (upd B a (.lst vs)) H (upd (upd B a (.lst vs)) p (.tup (.int t :: .ref a :: ws))) H := Step.tup s1.bh hp
  exact ⟨_, s1.trans s2, g1.trans s2.bb, .tup (by intro z; cases z) upd_same (.cons (.int t) (.cons (.lst (s2.bb _ _ upd_same) (RpKA.mono (g1.trans s2.bb) r1)) (RpKA.mono (g1.trans s2.bb) r2)))⟩
theorem BoxR.step {B H B' H' : Hp} {v : V} {t : Int} {xs ds : List PyData} (h : BoxR H0 B H v t xs ds) (e : Step B H B' H') : BoxR H0 B' H' v t xs ds := by
  obtain ⟨p, a, vs, ws, rfl, hp, hB, ha, r1, r2, h0⟩ := h
  exact ⟨p, a, vs, ws, rfl, e.hh _ _ hp, e.fr a _ hB ha trivial, e.hh _ _ ha, RpKA.mono e.bb r1, RpKA.mono e.bb r2, h0⟩
abbrev tsNo (i : Nat) : Addr → Value → Option Addr → TS := fun a cls d => tRet (tTup (tCons (tC (.int 2)) (tCons (tXf a cls d 99 "parcel" (tVar i)) (tCons (tXf a cls d 99 "at" (tVar i)) tNil))))
abbrev tsTwo (i : Nat) : Addr → Value → Option Addr → TS := fun a cls d => tRet (tTup (tCons (tC (.int 3)) (tCons (tXf a cls d 118 "parcel" (tVar i)) (tCons (tXf a cls d 118 "at" (tVar i)) (tCons (tXf a cls d 118 "one" (tVar i)) (tCons (tXf a cls d 118 "other" (tVar i)) tNil))))))
theorem ts_no {B H : Hp} {σ : L2.St} {D : Ends} {i : Nat} {a : Addr} {cls : Value} {d : Option Addr} {xs : List PyData} {y : PyData} (st : Step B0 H0 B H) (hs : σ[i]? = some (some (.ref a))) (h : XcR H0 B H ⟨99, some [("at", .d y), ("parcel", .own xs)]⟩ cls d)
    (k : ∀ v B' H', Step B0 H0 B' H' → BoxR H0 B' H' v 2 xs [y] → D.rt v H') : tsNo i a cls d D σ H := by
  obtain ⟨rfl, dd, vs, rfl, hdd, hB, pr⟩ := h
  cases pr with
  | @cons p1 _ l1 _ q1 pr =>
    cases pr with
    | @cons p2 _ l2 _ q2 pr =>
      cases pr
      obtain ⟨n1, v1⟩ := p1
      obtain ⟨n2, v2⟩ := p2
      obtain ⟨e1, r1, _⟩ := q1
      obtain ⟨e2, r2, f2⟩ := q2
      dsimp only at e1 e2
      subst e1 e2
      obtain ⟨a', ws, e3, hb, ha, rr⟩ := r2
      dsimp only at e3
      subst e3
      obtain ⟨b, e4, h0⟩ := f2 rfl
      cases e4
      refine ⟨_, hs, rfl, rfl, dd, _, _, rfl, hdd, (by rfl), _, hs, rfl, rfl, dd, _, _, rfl, hdd, (by rfl), (by show 3 ≤ sizeLine; decide), fun p hp => k _ B _ (st.trans (Step.newH st.bh hp)) ⟨p, a', ws, [v1], rfl, upd_same, hb, ?_, RpKA.any rr, .cons (RpK.any r1) .nil, h0⟩⟩
      rw [upd_ne (ne_of_none ha hp)]
      exact ha
theorem ts_two {B H : Hp} {σ : L2.St} {D : Ends} {i : Nat} {a : Addr} {cls : Value} {d : Option Addr} {xs : List PyData} {y y1 y2 : PyData} (st : Step B0 H0 B H) (hs : σ[i]? = some (some (.ref a))) (h : XcR H0 B H ⟨118, some [("other", .d y2), ("one", .d y1), ("at", .d y), ("parcel", .own xs)]⟩ cls d)
    (k : ∀ v B' H', Step B0 H0 B' H' → BoxR H0 B' H' v 3 xs [y, y1, y2] → D.rt v H') : tsTwo i a cls d D σ H := by
  obtain ⟨rfl, dd, vs, rfl, hdd, hB, pr⟩ := h
  cases pr with
  | @cons p1 _ l1 _ q1 pr =>
  cases pr with
  | @cons p2 _ l2 _ q2 pr =>
  cases pr with
  | @cons p3 _ l3 _ q3 pr =>
  cases pr with
  | @cons p4 _ l4 _ q4 pr =>
      cases pr
      obtain ⟨n1, v1⟩ := p1
      obtain ⟨n2, v2⟩ := p2
      obtain ⟨n3, v3⟩ := p3
      obtain ⟨n4, v4⟩ := p4
      obtain ⟨e1, r1, _⟩ := q1
      obtain ⟨e2, r2, _⟩ := q2
      obtain ⟨e3, r3, _⟩ := q3
      obtain ⟨e4, r4, f4⟩ := q4
      dsimp only at e1 e2 e3 e4
      subst e1 e2 e3 e4
      obtain ⟨a', ws, e5, hb, ha, rr⟩ := r4
      dsimp only at e5
      subst e5
      obtain ⟨b, e6, h0⟩ := f4 rfl
      cases e6
      refine ⟨_, hs, rfl, rfl, dd, _, _, rfl, hdd, (by rfl), _, hs, rfl, rfl, dd, _, _, rfl, hdd, (by rfl), _, hs, rfl, rfl, dd, _, _, rfl, hdd, (by rfl), _, hs, rfl, rfl, dd, _, _, rfl, hdd, (by rfl), (by show 5 ≤ sizeLine; decide), fun p hp => k _ B _ (st.trans (Step.newH st.bh hp)) ⟨p, a', ws, [v3, v2, v1], rfl, upd_same, hb, ?_, RpKA.any rr, .cons (RpK.any r3) (.cons (RpK.any r2) (.cons (RpK.any r1) .nil)), h0⟩⟩
      rw [upd_ne (ne_of_none ha hp)]
      exact ha
end
/-- what a PR that is no heading tells: code, rest -/
def prC : PR → Int
  | .go _ => 1
  | .no _ => 2
  | .two _ _ _ => 3
def prR : PR → List PyData
  | .go _ => []
  | .no a => [encN a]
  | .two a b c => [encN a, encN b, encN c]
variable {P : Program} {w : World} {K : KF} {mg : Str → Option Value} {base : Heap}
/-- the two clauses of the law's trys -/
abbrev cls2 (i : Nat) : List Cls1 := [(.ref 99, tsNo i), (.ref 118, tsTwo i)]
theorem was2 (T : Txt K mg) {B0 H0 B H : Hp} {σ : L2.St} {D : Ends} {i : Nat} {Wo : WX} {cls : Value} {d : Option Addr} {ks : List Knd} {look : List Int} {r : PR} {x : Xc} (hi : i < σ.length) (st : Step B0 H0 B H) (hx : xcOf ks look r = some x) (h : XcR H0 B H x cls d)
    (k : ∀ v B' H', Step B0 H0 B' H' → BoxR H0 B' H' v (prC r) (partsL ks look) (prR r) → D.rt v H') : wAsM K i Wo D (cls2 i) cls d σ H := by
  cases r with
  | go n => cases hx
  | no a =>
    cases hx
    have hc := h.1
    dsimp only at hc
    subst hc
    exact ⟨true, q_NoneClaims_NoneClaims T, fun _ e he => ts_no (D := Ends.bar D i) st (by rw [List.getElem?_set_self hi]) h k, fun z => by cases z⟩
  | two a b c =>
    cases hx
    have hc := h.1
    dsimp only at hc
    subst hc
    exact ⟨false, q_TwoClaim_NoneClaims T, (fun z => by cases z), fun _ => ⟨true, q_TwoClaim_TwoClaim T, fun _ e he => ts_two (D := Ends.bar D i) st (by rw [List.getElem?_set_self hi]) h k, fun z => by cases z⟩⟩
theorem xf_NoneClaims (T : Txt K mg) : XfC K 99 := ⟨(oexF (o_NoneClaims T)).ga, (oexF (o_NoneClaims T)).gt, (oexF (o_NoneClaims T)).cls.exC, (oexF (o_NoneClaims T)).hd⟩
theorem xf_TwoClaim (T : Txt K mg) : XfC K 118 := ⟨(oexF (o_TwoClaim T)).ga, (oexF (o_TwoClaim T)).gt, (oexF (o_TwoClaim T)).cls.exC, (oexF (o_TwoClaim T)).hd⟩
theorem encPR_c {ks : List Knd} {look : List Int} {r : PR} {x : Xc} (hx : xcOf ks look r = some x) : encPR ks look r = .tuple (.int (prC r) :: .list (partsL ks look) :: prR r) := by
  cases r with
  | go n => cases hx
  | no a => rfl
  | two a b c => rfl
theorem xc_go {ks : List Knd} {look : List Int} (r : PR) : (∃ n, r = .go n) ∨ ∃ x, xcOf ks look r = some x := by
  cases r with
  | go n => exact .inl ⟨n, rfl⟩
  | no a => exact .inr ⟨_, rfl⟩
  | two a b c => exact .inr ⟨_, rfl⟩
theorem ok_Lheading (T : Txt K mg) : FnOk P w K mg base CX0 12 839 (fdOf K 839) ["_law_tree", "_law_parts_here"] (spD (fun ss s => ∃ (ks : List Knd) (one : Bool) (rows : List Rw) (l : List Prt), ss = [.ab (TreeP ks one rows), dL (pL l)] ∧ KsOk ks ∧ RowsOk rows ∧ goodL ks l ∧ 1 ≤ l.length ∧ l.length ≤ 40 ∧ (wgt ks l).sum ≤ 1000000000000000 ∧ s = .d (encPR ks (lookOf (wgt ks l)) (headR ks one rows (lookOf (wgt ks l)))) .an) noX) := by
  refine Fun.okD (f_Lheading T) sc_Lheading (fun ss s ⟨_, _, _, _, h, _⟩ => by rw [h]; rfl) fun cdv A outer h H E hr ss s ⟨ks, one, rows, l, hs, hk, hok, hg, h1, h4, hsum, hv⟩ => ?_
  subst hs hv
  refine ⟨_, pss_cons (ps_set (i := 2) sc_Lheading.nd rfl (Or.inl rfl) pe_non)
    (pss_cons (ps_try_asM (i := 3) (Wo := fun _ _ _ _ => False) (l := cls2 3) (tb := fun W => tAsg (tCallW _ W (tCons (tVar 0) (tCons (tVar 1) tNil))) (gName 2)) rfl rfl sc_Lheading.nd rfl rfl takes0
        (fun W pn xe tk pa => pss_one (ps_set (i := 2) sc_Lheading.nd rfl (Or.inl rfl) (pe_callW (ok_headingof T) (hr.mono (by decide)) rfl (g_headingof T) (f_headingof T).kp (b_headingof T) tk (pa_cons (pv 0) (pa_cons (pv 1) pa_nil)))))
        (.cons ⟨rfl, by decide, .inl (g_NoneClaims T)⟩ (fun a oe cls d pn hz hf => pss_one (ps_ret (pe_tup (pa_cons pe_int (pa_cons (pe_xf (xf_NoneClaims T) (n_NoneClaims_parcel T) hz hf (pv 3)) (pa_cons (pe_xf (xf_NoneClaims T) (n_NoneClaims_at T) hz hf (pv 3)) pa_nil))))))
          (.cons ⟨rfl, by decide, .inl (g_TwoClaim T)⟩ (fun a oe cls d pn hz hf => pss_one (ps_ret (pe_tup (pa_cons pe_int (pa_cons (pe_xf (xf_TwoClaim T) (n_TwoClaim_parcel T) hz hf (pv 3)) (pa_cons (pe_xf (xf_TwoClaim T) (n_TwoClaim_at T) hz hf (pv 3)) (pa_cons (pe_xf (xf_TwoClaim T) (n_TwoClaim_one T) hz hf (pv 3)) (pa_cons (pe_xf (xf_TwoClaim T) (n_TwoClaim_other T) hz hf (pv 3)) pa_nil))))))))
            .nil)))
    (pss_one (ps_ret (pe_tup (pa_cons pe_int (pa_cons (pv 2) pa_nil)))))), fun B0 H0 => ?_⟩
  refine ws_seq (ws_asg ev_non ?_)
  rcases xc_go (ks := ks) (look := lookOf (wgt ks l)) (headR ks one rows (lookOf (wgt ks l))) with ⟨n, hn⟩ | ⟨x, hx⟩
  · rw [hn]
    refine ws_seq (fun B H σ D g k1 k2 k3 k4 => ?_)
    refine ws_asg (E := { nx := fun Γ' => WS B0 H0 _ Γ' _, rt := _ }) (s := .d (encN n)) (fun B H σ Q g q => ?_) ?_ B H σ D g k1 k2 k3 k4
    · exact ev_call (E := fun cls d H' => wAsM K 3 (fun _ _ _ _ => False) D (cls2 3) cls d σ H') (ea_cons (ev_var rfl) (ea_cons (ev_var rfl) ea_nil)) ⟨ks, one, rows, l, n, rfl, hk, hok, hg, h1, h4, hsum, hn, rfl⟩ B H σ Q g q
    · exact ws_ret (ev_any (ev_tup (κ := .pl) (ds := [.int 1, encN n]) (ea_cons ev_int (ea_cons (ev_var rfl) ea_nil)) (by simp))) rfl
  · rw [encPR_c hx]
    refine ws_seq (fun B H σ D g k1 k2 k3 k4 => ?_)
    have hl : 3 < σ.length := by rw [g.g.len]; exact (by decide : 3 < 4)
    refine ex_call (E := fun cls d H' => wAsM K 3 (fun _ _ _ _ => False) D (cls2 3) cls d σ H') (ea_cons (ev_var rfl) (ea_cons (ev_var rfl) ea_nil)) ⟨ks, one, rows, .list (pL l), rfl, hk, hok, .inr ⟨l, rfl, hg, h1, h4, hsum, hx⟩⟩ B H σ _ g.g fun cls d B' H' st r => ?_
    exact was2 T hl (g.st.trans st) hx (r.back g.st.hh) fun v B2 H2 st2 box => by
      obtain ⟨B3, st3, _, r3⟩ := box_d st2 box
      exact k2 _ v B3 H2 rfl st3 r3 (.no rfl)
/-- what the audit tells: the rows, or the first failing look -/
def AudR (ks : List Knd) (one : Bool) (rows : List Rw) (t : Int) (xs ds : List PyData) : Prop :=
  ((∀ l ∈ allLooks ks.length, ∃ n, headR ks one rows l = .go n) ∧ t = 1 ∧ xs = audL ks one rows (allLooks ks.length) ∧ ds = []) ∨
    ∃ (j : Nat) (l : List Int), (allLooks ks.length)[j]? = some l ∧ (∀ i < j, ∀ l, (allLooks ks.length)[i]? = some l → ∃ n, headR ks one rows l = .go n) ∧ (∃ x, xcOf ks l (headR ks one rows l) = some x) ∧ t = prC (headR ks one rows l) ∧ xs = partsL ks l ∧ ds = prR (headR ks one rows l)
def spA : Sp := fun vs H Q E => ∃ (B : Hp) (ks : List Knd) (one : Bool) (rows : List Rw) (v : V) (t : Int) (xs ds : List PyData), vs = [v] ∧ Gr B H ∧ Ab (TreeP ks one rows) B v ∧ KsOk ks ∧ RowsOk rows ∧ AudR ks one rows t xs ds ∧
  ∀ u B' H', Step B H B' H' → BoxR H B' H' u t xs ds → Q u H'
theorem ok_Laudit (T : Txt K mg) : FnOk P w K mg base CX0 12 832 (fdOf K 832) ["_law_tree"] spA := by
  refine (f_Laudit T).ok sc_Laudit (fun vs H Q E ⟨_, _, _, _, _, _, _, _, h, _⟩ => by rw [h]; rfl) fun cdv A outer h H vs Q E hr hsp => ?_
  refine ⟨_, pss_cons (ps_set (i := 1) sc_Laudit.nd rfl (Or.inl rfl) pe_non)
    (pss_cons (ps_try_asM (i := 2) (Wo := fun _ _ _ _ => False) (l := cls2 2) (tb := fun W => tAsg (tCallW _ W (tCons (tVar 0) tNil)) (gName 1)) rfl rfl sc_Laudit.nd rfl rfl takes0
        (fun W pn xe tk pa => pss_one (ps_set (i := 1) sc_Laudit.nd rfl (Or.inl rfl) (pe_callW (ok_auditof T) (hr.mono (by decide)) rfl (g_auditof T) (f_auditof T).kp (b_auditof T) tk (pa_cons (pv 0) pa_nil))))
        (.cons ⟨rfl, by decide, .inl (g_NoneClaims T)⟩ (fun a oe cls d pn hz hf => pss_one (ps_ret (pe_tup (pa_cons pe_int (pa_cons (pe_xf (xf_NoneClaims T) (n_NoneClaims_parcel T) hz hf (pv 2)) (pa_cons (pe_xf (xf_NoneClaims T) (n_NoneClaims_at T) hz hf (pv 2)) pa_nil))))))
          (.cons ⟨rfl, by decide, .inl (g_TwoClaim T)⟩ (fun a oe cls d pn hz hf => pss_one (ps_ret (pe_tup (pa_cons pe_int (pa_cons (pe_xf (xf_TwoClaim T) (n_TwoClaim_parcel T) hz hf (pv 2)) (pa_cons (pe_xf (xf_TwoClaim T) (n_TwoClaim_at T) hz hf (pv 2)) (pa_cons (pe_xf (xf_TwoClaim T) (n_TwoClaim_one T) hz hf (pv 2)) (pa_cons (pe_xf (xf_TwoClaim T) (n_TwoClaim_other T) hz hf (pv 2)) pa_nil))))))))
            .nil)))
    (pss_one (ps_ret (pe_tup (pa_cons pe_int (pa_cons (pv 1) pa_nil)))))), ?_⟩
  obtain ⟨B, ks, one, rows, v, t, xs, ds, rfl, hg, hv, hk, hok, ha, q⟩ := hsp
  have sr0 : SR B H B H (L2.start N_Laudit [v]) (stG N_Laudit [.ab (TreeP ks one rows)]) := SR.start hg (.cons ⟨hv, rfl⟩ .nil)
  have sr : SR B H B H ((L2.start N_Laudit [v]).set 1 (some .non)) ((stG N_Laudit [.ab (TreeP ks one rows)]).set 1 (some dN)) := sr0.setN (.rfl hg) RpK.non (.no rfl)
  show tAsg _ (gName 1) _ _ _
  show tSeq _ _ _ ((L2.start N_Laudit [v]).set 1 (some .non)) H
  rcases ha with ⟨hall, rfl, rfl, rfl⟩ | ⟨j, l, hj, hpre, ⟨x, hx⟩, rfl, rfl, rfl⟩
  · refine ev_call (E := fun cls d H' => wAsM K 2 (fun _ _ _ _ => False) _ (cls2 2) cls d _ H') (ea_cons (ev_var rfl) ea_nil) ⟨ks, one, rows, rfl, hk, hok, hall, rfl⟩ B H _ _ sr.g fun u B' H' st r f => ?_
    obtain ⟨a, ws, rfl, hB, hH, rr⟩ := r
    obtain ⟨b, e, h0⟩ := f rfl
    cases e
    have hl : 1 < ((L2.start N_Laudit [v]).set 1 (some V.non)).length := by rw [sr.g.len]; exact (by decide : 1 < 3)
    refine ⟨_, List.getElem?_set_self hl, (by show 2 ≤ sizeLine; decide), fun p hp => q _ B' _ (st.trans (Step.newH st.bh hp)) ⟨p, a, ws, [], rfl, upd_same, hB, ?_, rr, .nil, h0⟩⟩
    rw [upd_ne (ne_of_none hH hp)]
    exact hH
  · refine ex_call (E := fun cls d H' => wAsM K 2 (fun _ _ _ _ => False) _ (cls2 2) cls d _ H') (ea_cons (ev_var rfl) ea_nil) ⟨ks, one, rows, j, l, rfl, hk, hok, hj, hpre, hx⟩ B H _ _ sr.g fun cls d B' H' st r => ?_
    have hl : 2 < ((L2.start N_Laudit [v]).set 1 (some V.non)).length := by rw [sr.g.len]; exact (by decide : 2 < 3)
    exact was2 T hl st hx r fun u B2 H2 st2 box => q u B2 H2 st2 box
theorem exc56 (T : Txt K mg) : ExcC K 56 ∧ PySem.W.kitOne K (.ref 56) (.ref 56) = some true ∧ PySem.W.kitOne K (.ref 56) (.ref 99) = some false ∧ PySem.W.kitOne K (.ref 56) (.ref 118) = some false := by
  obtain ⟨h1, h2⟩ := b2 (l_NoGoods T)
  obtain ⟨h3, h4⟩ := b2 h1
  obtain ⟨h5, h6⟩ := b2 h3
  obtain ⟨h7, h8⟩ := b2 h4
  obtain ⟨h9, h10⟩ := b2 h2
  obtain ⟨h11, h12⟩ := b2 h9
  obtain ⟨h13, h14⟩ := b2 h10
  obtain ⟨h15, h16⟩ := b2 h14
  obtain ⟨h17, h18⟩ := b2 h16
  exact ⟨⟨ok_eqo h5, ok_eqo h6, es_NoGoods T, h7, ok_eqo h8, ok_eqo h11, of_decide_eq_true h12, of_decide_eq_true h13⟩, of_decide_eq_true h15, of_decide_eq_true h17, of_decide_eq_true h18⟩
abbrev rI56 (K : KF) (a : Addr) (cls : Value) (d : Option Addr) : List V → Hp → VK → Prop := fun xs H Q => (cls = .ref 56 ∧ d = none) ∧ rIsE K 56 a xs H Q
theorem ev_is56 {Γ : Cxt} {i : Nat} {a C : Addr} {b : Bool} (h : Γ[i]? = some (some (.ab fun _ v => v = .ref a))) (hk : PySem.W.kitOne K (.ref 56) (.ref C) = some b) : EvS (tCB (rI56 K a (.ref 56) none) (tCons (tVar i) (tCons (tC (.ref C)) tNil))) Γ (dB b) :=
  ev_cb (ss := [.ab fun _ v => v = .ref a, .ab fun _ v => v = .ref C]) (ea_cons (ev_var h) (ea_cons (fun B H σ Q g q => q _ B H (.rfl g.ex) ⟨B, .rfl, rfl⟩ (.no rfl)) ea_nil)) fun B H vs Q e r q => by
    obtain ⟨v, u, rfl, ⟨_, _, h1⟩, ⟨_, _, h2⟩⟩ := r.two
    subst h1 h2
    exact ⟨⟨rfl, rfl⟩, .ref C, .ref C, b, rfl, fun u h => h, hk, q.now e (RpK.bl _) rfl⟩
theorem ok_Lnogoods (T : Txt K mg) : FnOk P w K mg base CX0 12 846 (fdOf K 846) ["_law_tree", "_law_parts_here"] (spD (fun ss s => ∃ (ks : List Knd) (one : Bool) (rows : List Rw) (d : PyData), ss = [.ab (TreeP ks one rows), .d d] ∧ KsOk ks ∧ RowsOk rows ∧ BadParts ks d ∧ s = dB true) noX) := by
  obtain ⟨hE, k1, k2, k3⟩ := exc56 T
  refine Fun.okD (f_Lnogoods T) sc_Lnogoods (fun ss s ⟨_, _, _, _, h, _⟩ => by rw [h]; rfl) fun cdv A outer h H E hr ss s ⟨ks, one, rows, d, hs, hk, hok, hb, hv⟩ => ?_
  subst hs hv
  refine ⟨_, pss_cons (ps_try_asM (i := 2) (Wo := fun _ _ _ _ => False) (tb := fun W => tDrop (tCallW _ W (tCons (tVar 0) (tCons (tVar 1) tNil)))) (l := [(.ref 31, fun a cls d => tRet (tAndV (tCB (rI56 K a cls d) (tCons (tVar 2) (tCons (tC (.ref 56)) tNil))) (tAndV (tNotV (tCB (rI56 K a cls d) (tCons (tVar 2) (tCons (tC (.ref 99)) tNil)))) (tNotV (tCB (rI56 K a cls d) (tCons (tVar 2) (tCons (tC (.ref 118)) tNil)))))))]) rfl rfl sc_Lnogoods.nd rfl rfl takes0
        (fun W pn xe tk pa => pss_one (ps_expr (pe_callW (ok_headingof T) (hr.mono (by decide)) rfl (g_headingof T) (f_headingof T).kp (b_headingof T) tk (pa_cons (pv 0) (pa_cons (pv 1) pa_nil)))))
        (.cons ⟨rfl, by decide, .inl (g_TariffError T)⟩ (fun a oe cls d pn hz hf => pss_one (ps_ret (pe_and (pe_callB (call_isE2 hE hz hf) rfl (z_isinstance T) (by decide +kernel) (pa_cons (pv 2) (pa_cons (pe_glob (v := .ref 56) rfl (g_NoGoods T) rfl) pa_nil))) (pe_and (pe_not (pe_callB (call_isE2 hE hz hf) rfl (z_isinstance T) (by decide +kernel) (pa_cons (pv 2) (pa_cons (pe_glob (v := .ref 99) rfl (g_NoneClaims T) rfl) pa_nil)))) (pe_one (pe_not (pe_callB (call_isE2 hE hz hf) rfl (z_isinstance T) (by decide +kernel) (pa_cons (pv 2) (pa_cons (pe_glob (v := .ref 118) rfl (g_TwoClaim T) rfl) pa_nil)))))))))
            .nil))
    (pss_one (ps_ret pe_bl)), fun B0 H0 => ?_⟩
  refine ws_seq (fun B H σ D g c1 c2 c3 c4 => ?_)
  have hl : 2 < σ.length := by rw [g.g.len]; exact (by decide : 2 < 3)
  refine ex_call (E := fun cls d H' => wAsM K 2 (fun _ _ _ _ => False) D _ cls d σ H') (ea_cons (ev_var rfl) (ea_cons (ev_var rfl) ea_nil)) ⟨ks, one, rows, d, rfl, hk, hok, .inl ⟨hb, rfl⟩⟩ B H σ _ g.g fun cls dd B' H' st r => ?_
  obtain ⟨hc, hd⟩ := r
  have hc2 : cls = .ref 56 := hc
  have hd2 : dd = none := hd
  subst hc2 hd2
  refine ⟨true, q_NoGoods_TariffError T, fun _ a ha => ?_, fun z => by cases z⟩
  have g2 : GR B' H' (σ.set 2 (some (.ref a))) ((stG N_Lnogoods [.ab (TreeP ks one rows), .d d]).set 2 (some (.ab fun _ v => v = .ref a))) := (g.step st).g.set0 (s := .ab fun _ v => v = .ref a) ⟨B', .rfl, rfl⟩ rfl
  have hev := ev_andV (ev_is56 (K := K) (Γ := (stG N_Lnogoods [.ab (TreeP ks one rows), .d d]).set 2 (some (.ab fun _ v => v = .ref a))) (i := 2) (a := a) rfl k1) fun _ => ev_andV (ev_notV (ev_is56 (i := 2) (a := a) rfl k2)) fun _ => ev_notV (ev_is56 (i := 2) (a := a) rfl k3)
  exact hev B' H' _ _ g2 fun v B2 H2 st2 r2 f2 => c2 (dB true) v B2 H2 rfl ((g.st.trans st).trans st2) r2 (.no rfl)
end TG
set_option Elab.async false
set_option linter.all false
set_option maxRecDepth 100000
set_option maxHeartbeats 4000000
/-! W25: the law's names. -/
namespace TG
open PySem PySem.Spec PyProof.Rows L2
variable {P : Program} {w : World} {K : KF} {mg : Str → Option Value} {base : Heap}
section
variable {Γ : Cxt} {te ta tb : TE} {κ : TK}
abbrev rJoin (K : PySem.W.Frag) : V → List V → Hp → VK → Prop := fun x xs H Q => ∃ a p, ∃ ys : List Str, x = .str a ∧ xs = [.ref p] ∧ (SqL K H p (ys.map V.str) ∨ SqT K H p (ys.map V.str)) ∧ (ys.map (·.length)).sum + ys.length * a.length ≤ 16777216 ∧ Q (.str (Txt.join a ys)) H
theorem ones_sum : ∀ l : List Nat, ((l.map fun c => (⟨#[c]⟩ : Str)).map (·.length)).sum = l.length
  | [] => rfl
  | c :: l => by
    rw [List.map_cons, List.map_cons, List.sum_cons, ones_sum l, List.length_cons]
    show 1 + l.length = l.length + 1
    omega
theorem ev_joinC {l : List Nat} (h : EvS te Γ (.d (.list (l.map fun c => PyData.str ⟨#[c]⟩)) κ)) (hl : l.length ≤ 1000) : EvS (tM1 (rJoin K) (tC (.str "")) te) Γ (dS ⟨l.toArray⟩) := fun B H σ Q g q => by
  refine ⟨⟨_, rfl⟩, h B H σ _ g fun v B1 H1 st r _ => ?_⟩
  obtain ⟨a, vs, rfl, ha, hr⟩ := RpK.lst_inv r
  have e : (l.map fun c => PyData.str ⟨#[c]⟩) = (l.map fun c => (⟨#[c]⟩ : Str)).map PyData.str := by rw [List.map_map]; rfl
  rw [e] at hr
  have hv := hr.strs
  subst hv
  refine ⟨"", a, l.map fun c => ⟨#[c]⟩, rfl, rfl, .inl (SqL.of (st.bh _ _ ha)), ?_, ?_⟩
  · rw [ones_sum, List.length_map]
    have : ("" : Str).length = 0 := by decide
    rw [this]
    omega
  · have e2 : Txt.join "" (l.map fun c => (⟨#[c]⟩ : Str)) = ⟨l.toArray⟩ := by
      show Builtin.Str.glued _ _ = _
      rw [StrLaws.glued_eq_join]
      exact PyProof.Rows.join_ones l
    rw [e2]
    exact q _ B1 H1 st (RpK.str _) (.no rfl)
theorem ev_ixSt {x : Str} {i : Int} {c : Nat} (ha : EvS ta Γ (dS x)) (hb : EvS tb Γ (dI i)) (hl : x.length ≤ sizeLine) (h : atI x.cps.toList i = some c) : EvS (tOp rIxS ta tb) Γ (dS ⟨#[c]⟩) :=
  ev_op2 ha hb rfl rfl fun B H v w Q e r1 r2 q => ⟨x, i, c, RpK.str_inv r1, RpK.int_inv r2, hl, h, q.now e (RpK.str _) rfl⟩
end
theorem cut_to {ds : List PyData} {n : Nat} : cutD ds none (some (n : Int)) = ds.take n := by
  unfold cutD
  rw [HT.sIx_none, HT.sIx_nat, List.drop_zero, Nat.sub_zero]
  by_cases h : n ≤ ds.length
  · rw [Nat.min_eq_left h]
  · rw [Nat.min_eq_right (by omega), List.take_of_length_le (Nat.le_refl _), List.take_of_length_le (by omega)]
theorem iL_take (l : List Int) (n : Nat) : (iL l).take n = iL (l.take n) := by unfold iL; rw [List.map_take]
def prmL : List Int := [10007, 10009, 10037, 10039, 10061, 10067, 10069, 10079]
def sgnL (cell : Int) : List Int := (List.range 8).map fun (j : Nat) => cell * (48271 + 7919 * (j : Int)) % prmL.getD j 1 % 26
def cod (s : Int) : Nat := lettersS.cps.toList.getD s.toNat 0
def wayB (more : Int) : Bool := decide (more / 8 % 3 = 1)
def szN (more : Int) (k : Nat) : Int := if wayB more then 1 + (more + (k : Int)) % 8 else 1 + more % 8
def spN (more : Int) : Nat := (more / 24 % (1 + more % 8)).toNat
def sgk (cell more : Int) (k : Nat) : List Int := if wayB more then sgnL cell else (sgnL cell).set (spN more) (((sgnL cell).getD (spN more) 0 + (k : Int)) % 26)
def nameN (cell more : Int) (k : Nat) : Str := ⟨(((sgk cell more k).take (szN more k).toNat).map cod).toArray⟩
def namesN (cell more : Int) : List Str := (List.range 4).map (nameN cell more)
theorem sgn_len (cell : Int) : (sgnL cell).length = 8 := by simp [sgnL]
theorem sgk_len (cell more : Int) (k : Nat) : (sgk cell more k).length = 8 := by
  unfold sgk
  split
  · exact sgn_len cell
  · rw [List.length_set]; exact sgn_len cell
theorem sp_lt (more : Int) : spN more < 8 ∧ ((spN more : Nat) : Int) = more / 24 % (1 + more % 8) ∧ ((spN more : Nat) : Int) < 1 + more % 8 := by
  have h1 : 0 < 1 + more % 8 := by omega
  have h2 := Int.emod_nonneg (more / 24) (Int.ne_of_gt h1)
  have h3 := Int.emod_lt_of_pos (more / 24) h1
  unfold spN
  refine ⟨?_, ?_, ?_⟩ <;> omega
theorem sgn_rng (cell : Int) : ∀ s ∈ sgnL cell, 0 ≤ s ∧ s < 26 := fun s h => by
  obtain ⟨j, _, rfl⟩ := List.mem_map.mp h
  omega
theorem sgk_rng (cell more : Int) (k : Nat) : ∀ s ∈ sgk cell more k, 0 ≤ s ∧ s < 26 := fun s h => by
  unfold sgk at h
  split at h
  · exact sgn_rng cell s h
  · rcases List.mem_or_eq_of_mem_set h with h | rfl
    · exact sgn_rng cell s h
    · omega
theorem cod_at {s : Int} (h : 0 ≤ s ∧ s < 26) : atI lettersS.cps.toList s = some (cod s) := by
  obtain ⟨n, rfl⟩ : ∃ n : Nat, s = (n : Int) := ⟨s.toNat, by omega⟩
  refine atI_nat ?_
  have hl : lettersS.cps.toList.length = 26 := by decide +kernel
  have hn : n < lettersS.cps.toList.length := by omega
  unfold cod
  rw [Int.toNat_natCast, List.getD_eq_getElem?_getD, List.getElem?_eq_getElem hn]
  rfl
theorem sgn_lc (cell : Int) : (((rngD 8).filter fun _ => true).map fun d => match d with | .int i => PyData.int (cell * (48271 + 7919 * i) % prmL.getD i.toNat 1 % 26) | d => d) = iL (sgnL cell) := by
  rw [List.filter_eq_self.mpr fun _ _ => rfl]
  unfold rngD iL sgnL
  rw [List.map_map, List.map_map]
  rfl
theorem ok_Lnames (T : Txt K mg) : FnOk P w K mg base CX0 1 711 (fdOf K 711) ["_law_cell", "_law_more"] (spD (fun ss s => ∃ (cell more : Int), ss = [dI cell, dI more] ∧ s = .own ((namesN cell more).map .str)) noX) := by
  refine Fun.okD (f_Lnames T) sc_Lnames (fun ss s ⟨_, _, h, _⟩ => by rw [h]; rfl) fun cdv A outer h H E hr ss s ⟨cell, more, hs, hv⟩ => ?_
  subst hs hv
  refine ⟨_, (pss_cons (ps_set (i := 2) sc_Lnames.nd rfl (Or.inr rfl) pe_str)
      (pss_cons (ps_set (i := 3) sc_Lnames.nd rfl (Or.inr rfl) (pe_lst (pa_cons pe_int (pa_cons pe_int (pa_cons pe_int (pa_cons pe_int (pa_cons pe_int (pa_cons pe_int (pa_cons pe_int (pa_cons pe_int pa_nil))))))))))
      (pss_cons (ps_set (i := 4) sc_Lnames.nd rfl (Or.inl rfl) (pe_lst pa_nil))
      (pss_cons (ps_for PassesOwn.never rfl (pi_range1 rfl (z_range T) (pa_cons pe_int pa_nil)) (pg_name (i := 5) sc_Lnames.nd rfl (Or.inl rfl))
      (pss_cons (ps_setLc (i := 6) (own := [("_law_j", 8)]) rfl sc_Lnames.nd rfl rfl (sw_true rfl rfl rfl (by decide +kernel)) (pi_range1 rfl (z_range T) (pa_cons pe_int pa_nil)) (blkOk_by (own := [("_law_j", 8)]) (N := N_Lnames) (sc := defScope s_Lnames) (by decide +kernel)) (fun _ _ _ _ _ => pg_name (i := 8) sc_Lnames.nd rfl (Or.inl rfl)) (fun _ _ _ _ _ => pts_nil) (fun _ _ _ _ _ => (pe_op op_mod (pe_op op_mod (pe_op op_mul (pv 0) (pe_op op_add pe_int (pe_op op_mul pe_int (pv 8)))) (pe_ix (r := rIxL K) ix_list (pv 3) (pv 8) (fun _ _ => rfl))) pe_int)))
      (pss_cons (ps_set (i := 7) sc_Lnames.nd rfl (Or.inl rfl) (pe_op op_add pe_int (pe_op op_mod (pv 1) pe_int)))
      (pss_cons (ps_if (pt_cmpR op_eq (pe_op op_mod (pe_op op_fdiv (pv 1) pe_int) pe_int) pe_int (nomark _)) (pss_one (ps_set (i := 7) sc_Lnames.nd rfl (Or.inl rfl) (pe_op op_add pe_int (pe_op op_mod (pe_op op_add (pv 1) (pv 5)) pe_int)))) (pss_one (ps_asg (pe_op op_mod (pe_op op_add (pe_ix ix_list (pv 6) (pe_op op_mod (pe_op op_fdiv (pv 1) pe_int) (pv 7)) (fun _ _ => rfl)) (pv 5)) pe_int) (pg_sub (pv 6) (pe_op op_mod (pe_op op_fdiv (pv 1) pe_int) (pv 7)) set_list))))
      (pss_one (ps_expr (pe_bm PySem.F.plainAttrs_list PySem.F.slot_list_append PySem.F.type_list_append mt_append (pv 4) (pa_cons (pe_join pe_str (pe_lc (own := [("_law_sign", 9)]) rfl sc_Lnames.nd (pi_list (pe_slice sl_list (pv 6) po_none (po_some (pv 7)))) (blkOk_by (own := [("_law_sign", 9)]) (N := N_Lnames) (sc := defScope s_Lnames) (by decide +kernel)) (fun _ _ _ _ _ => pg_name (i := 9) sc_Lnames.nd rfl (Or.inl rfl)) (fun _ _ _ _ _ => pts_nil) (fun _ _ _ _ _ => (pe_ix (r := rIxS) ix_str (pv 2) (pv 9) (fun _ _ => rfl))))) pa_nil))))))))
      (pss_one (ps_ret (pv 4))))))), fun B0 H0 => ?_⟩
  obtain ⟨hp8, hpe, hplt⟩ := sp_lt more
  refine ws_seq (ws_asg ev_str ?_)
  refine ws_seq (ws_asg (s := dL (iL prmL)) (ev_fz (ev_lst (κ := .pl) (ds := iL prmL) (ea_cons ev_int (ea_cons ev_int (ea_cons ev_int (ea_cons ev_int (ea_cons ev_int (ea_cons ev_int (ea_cons ev_int (ea_cons ev_int ea_nil)))))))) (by decide))) ?_)
  refine ws_seq (ws_asg (ev_lst (ds := []) (κ := .pl) ea_nil (Nat.zero_le _)) ?_)
  refine ws_seq (ws_forR (n := 4) (ea_cons ev_int ea_nil) (by decide) (fun i Γ' => ∃ a b c d e, Γ' = [some (dI cell), some (dI more), some (dS lettersS), some (dL (iL prmL)), some (.own (((namesN cell more).map PyData.str).take i)), a, b, c, d, e]) ⟨none, none, none, none, none, rfl⟩ ?_ ?_)
  · rintro k Γ' hk ⟨a, b, c, d, e, rfl⟩
    refine ws_seq (ws_asg (s := .own (iL (sgnL cell))) ((ev_lcR (κ' := .pl) (n := 8) (fun _ => true) (fun d => match d with | .int i => PyData.int (cell * (48271 + 7919 * i) % prmL.getD i.toNat 1 % 26) | d => d) (ea_cons ev_int ea_nil) (List.mem_cons_self ..) (by decide) (fun i hi => et_yes) (fun i hi _ => ?_)).is (by rw [sgn_lc])) ?_)
    · have hpr : 0 < prmL.getD i 1 := by
        have : ∀ i < 8, 0 < prmL.getD i 1 := by decide
        exact this i hi
      have hpg : (iL prmL)[i]? = some (.int (prmL.getD i 1)) := by
        have : ∀ i < 8, prmL.getD i 0 = prmL.getD i 1 := by decide
        rw [i_get (l := prmL) hi, this i hi]
      refine ev_mod (ev_mod (ev_mul (ev_var rfl) (ev_add ev_int (ev_mul ev_int (ev_var rfl) (.inl ⟨by decide, by decide⟩))) (.inr ⟨by omega, by omega⟩)) (ev_ixL (κ := .pl) (ds := iL prmL) (ev_var rfl) (ev_var rfl) (atI_nat hpg)) ?_) ev_int (by decide)
      exact hpr
    refine ws_seq (ws_asg (ev_add ev_int (ev_mod (ev_var rfl) ev_int (by decide))) ?_)
    refine ws_seq (ws_mono (E := { nx := fun Γ' => Γ' = [some (dI cell), some (dI more), some (dS lettersS), some (dL (iL prmL)), some (.own (((namesN cell more).map PyData.str).take k)), some (dI (k : Int)), some (.own (iL (sgk cell more k))), some (dI (szN more k)), d, e], rt := fun _ => False }) (ws_if (b := wayB more) (et_test (ev_eqI (ev_mod (ev_fdiv (ev_var rfl) ev_int ⟨by decide, by decide⟩) ev_int (by decide)) ev_int)) (fun hb => ?_) fun hb => ?_) ?_ (fun _ h => h.elim) (fun _ h => h.elim) fun _ h => h.elim)
    · refine ws_asg (ev_add ev_int (ev_mod (ev_add (ev_var rfl) (ev_var rfl)) ev_int (by decide))) ?_
      unfold szN sgk
      rw [if_pos hb, if_pos hb]
      rfl
    · have hne : ¬ wayB more = true := by rw [hb]; decide
      have hg : (iL (sgnL cell))[spN more]? = some (.int ((sgnL cell).getD (spN more) 0)) := i_get (by rw [sgn_len]; exact hp8)
      have hidx : ∀ (Γ : Cxt), Γ[1]? = some (some (dI more)) → Γ[7]? = some (some (dI (1 + more % 8))) → EvS (tOp (rI (fun _ j => 0 < j) fun i j => .int (i % j)) (tOp (rI CDiv fun i j => .int (i / j)) (tVar 1) (tC (.int 24))) (tVar 7)) Γ (dI ((spN more : Nat) : Int)) := fun Γ e1 e7 => (ev_mod (ev_fdiv (ev_var e1) ev_int ⟨by decide, by decide⟩) (ev_var e7) (by omega)).is (by rw [hpe])
      refine ws_setI (i := 6) (κ := .pl) (xs := iL (sgnL cell)) (j := spN more) rfl (ev_thaw (i := 6) (κ := .pl) (xs := iL (sgnL cell)) rfl (ev_mod (ev_add (ev_ixL (κ := .pl) (ds := iL (sgnL cell)) (ev_var rfl) (hidx _ rfl rfl) (atI_nat hg)) (ev_var rfl)) ev_int (by decide)) rfl) (hidx _ rfl rfl) (by rw [iL_len, sgn_len]; exact hp8) ?_
      rw [iL_set]
      unfold szN sgk
      rw [if_neg hne, if_neg hne]
      rfl
    · rintro Γ' rfl
      refine ws_freeze (i := 6) (κ := .pl) rfl ?_
      have hsz : szN more k = (((szN more k).toNat : Nat) : Int) := by
        unfold szN
        split <;> omega
      refine ws_app (κ := .pl) (d := .str (nameN cell more k)) rfl (ev_joinC (κ := .pl) (l := ((sgk cell more k).take (szN more k).toNat).map cod) ((ev_fz (ev_lcL (κ := .pl) (κ' := .pl) (ds := iL ((sgk cell more k).take (szN more k).toNat)) (fun _ => true) (fun d => match d with | .int s => PyData.str ⟨#[cod s]⟩ | d => d) (ev_fz ((ev_slL (κ := .pl) (ds := iL (sgk cell more k)) (ev_var rfl) eo_none (eo_some (ev_var rfl))).is (by rw [hsz, cut_to, iL_take, Int.toNat_natCast]))) (List.mem_cons_self ..) (by rw [iL_len]; have := List.length_take_le (szN more k).toNat (sgk cell more k); have := sgk_len cell more k; rw [List.length_take]; omega) (fun d hd => et_yes) (fun d hd _ => ?_))).is ?_) (by rw [List.length_map, List.length_take, sgk_len]; omega)) (by rw [List.length_take]; simp [namesN]; omega) ?_
      · obtain ⟨s, hs, rfl⟩ := List.mem_map.mp hd
        exact ev_ixSt (x := lettersS) (ev_var rfl) (ev_var rfl) (by decide +kernel) (cod_at (sgk_rng cell more k s (List.mem_of_mem_take hs)))
      · rw [List.filter_eq_self.mpr fun _ _ => rfl]
        unfold iL
        rw [List.map_map, List.map_map]
        rfl
      · refine ⟨some (dI (k : Int)), some (dL (iL (sgk cell more k))), some (dI (szN more k)), d, e, ?_⟩
        have hget : ((namesN cell more).map PyData.str)[k]? = some (.str (nameN cell more k)) := by simp [namesN, hk]
        rw [List.take_add_one, hget]
        rfl
  · rintro Γ' ⟨a, b, c, d, e, rfl⟩
    rw [List.take_of_length_le (by simp [namesN])]
    exact ws_retOwn rfl rfl
end TG
set_option Elab.async false
set_option linter.all false
set_option maxRecDepth 100000
set_option maxHeartbeats 4000000
/-! W26: the law's kinds, notes. -/
namespace TG
open PySem PySem.Spec PyProof.Rows L2
variable {P : Program} {w : World} {K : KF} {mg : Str → Option Value} {base : Heap}
theorem atI_in {α : Type} {l : List α} {i : Int} {d : α} (h0 : 0 ≤ i) (h : l[i.toNat]? = some d) : atI l i = some d := by
  obtain ⟨n, rfl⟩ : ∃ n : Nat, i = (n : Int) := ⟨i.toNat, by omega⟩
  exact atI_nat (by rw [Int.toNat_natCast] at h; exact h)
theorem iL_at {l : List Int} {i : Int} (h0 : 0 ≤ i) (h1 : i < l.length) (d : Int) : atI (iL l) i = some (.int (l.getD i.toNat d)) := by
  refine atI_in h0 ?_
  have hn : i.toNat < l.length := by omega
  unfold iL
  rw [List.getElem?_map, List.getD_eq_getElem?_getD, List.getElem?_eq_getElem hn]
  rfl
theorem md_lt {a n : Int} (h : 0 < n) : 0 ≤ a % n ∧ a % n < n := ⟨Int.emod_nonneg _ (Int.ne_of_gt h), Int.emod_lt_of_pos _ h⟩
def manyL : List Int := [1, 1, 2, 2, 2, 2, 2, 2, 2, 2, 3, 3, 3, 3, 3, 4]
def stepL : List Int := [1, 4, 5, 7]
def manyN (cell : Int) : Nat := (manyL.getD (cell % 16).toNat 1).toNat
def stepN (cell : Int) : Int := stepL.getD (cell / 16 % 4).toNat 1
def spotN (cell : Int) (k : Nat) : Int := (cell / 64 + stepN cell * (k : Int)) % 16
def kindK (st us : List Str) (cell : Int) (k : Nat) : Knd := (st.getD (spotN cell k % 4).toNat "", us.getD (spotN cell k / 4).toNat "")
def stN (ns : List Int) : List Str := namesN (ns.getD 1 0) (ns.getD 2 0)
def usN (ns : List Int) : List Str := namesN (ns.getD 3 0) (ns.getD 4 0)
def kindsN (ns : List Int) : List Knd := (List.range (manyN (ns.getD 0 0))).map (kindK (stN ns) (usN ns) (ns.getD 0 0))
theorem many_rng (cell : Int) : 1 ≤ manyN cell ∧ manyN cell ≤ 4 ∧ ((manyN cell : Nat) : Int) = manyL.getD (cell % 16).toNat 1 := by
  have h := md_lt (a := cell) (n := 16) (by decide)
  have h2 : (cell % 16).toNat < 16 := by omega
  have : ∀ i < 16, 1 ≤ (manyL.getD i 1).toNat ∧ (manyL.getD i 1).toNat ≤ 4 ∧ (((manyL.getD i 1).toNat : Nat) : Int) = manyL.getD i 1 := by decide
  exact this _ h2
theorem names_len (a b : Int) : (namesN a b).length = 4 := by simp [namesN]
theorem s_at {l : List Str} {i : Int} (h0 : 0 ≤ i) (h1 : i < l.length) : atI (l.map PyData.str) i = some (.str (l.getD i.toNat "")) := by
  refine atI_in h0 ?_
  have hn : i.toNat < l.length := by omega
  rw [List.getElem?_map, List.getD_eq_getElem?_getD, List.getElem?_eq_getElem hn]
  rfl
theorem kinds_len (ns : List Int) : (kindsN ns).length = manyN (ns.getD 0 0) := by simp [kindsN]
theorem ok_Lkinds (T : Txt K mg) : FnOk P w K mg base CX0 2 718 (fdOf K 718) ["_law_script"] (spD (fun ss s => ∃ (ns : List Int), ss = [.ab (Scr K ns)] ∧ s = .own (ksL (kindsN ns))) noX) := by
  refine Fun.okD (f_Lkinds T) sc_Lkinds (fun ss s ⟨_, h, _⟩ => by rw [h]; rfl) fun cdv A outer h H E hr ss s ⟨ns, hs, hv⟩ => ?_
  subst hs hv
  refine ⟨_, (pss_cons (ps_set (i := 1) sc_Lkinds.nd rfl (Or.inl rfl) (pe_call (ok_Lcellat T) (hr.mono (by decide)) rfl (g_Lcellat T) (f_Lcellat T).kp (b_Lcellat T) .nil pass0 (pa_cons (pv 0) (pa_cons pe_int pa_nil))))
      (pss_cons (ps_set (i := 2) sc_Lkinds.nd rfl (Or.inl rfl) (pe_call (ok_Lnames T) (hr.mono (by decide)) rfl (g_Lnames T) (f_Lnames T).kp (b_Lnames T) .nil pass0 (pa_cons (pe_call (ok_Lcellat T) (hr.mono (by decide)) rfl (g_Lcellat T) (f_Lcellat T).kp (b_Lcellat T) .nil pass0 (pa_cons (pv 0) (pa_cons pe_int pa_nil))) (pa_cons (pe_call (ok_Lcellat T) (hr.mono (by decide)) rfl (g_Lcellat T) (f_Lcellat T).kp (b_Lcellat T) .nil pass0 (pa_cons (pv 0) (pa_cons pe_int pa_nil))) pa_nil))))
      (pss_cons (ps_set (i := 3) sc_Lkinds.nd rfl (Or.inl rfl) (pe_call (ok_Lnames T) (hr.mono (by decide)) rfl (g_Lnames T) (f_Lnames T).kp (b_Lnames T) .nil pass0 (pa_cons (pe_call (ok_Lcellat T) (hr.mono (by decide)) rfl (g_Lcellat T) (f_Lcellat T).kp (b_Lcellat T) .nil pass0 (pa_cons (pv 0) (pa_cons pe_int pa_nil))) (pa_cons (pe_call (ok_Lcellat T) (hr.mono (by decide)) rfl (g_Lcellat T) (f_Lcellat T).kp (b_Lcellat T) .nil pass0 (pa_cons (pv 0) (pa_cons pe_int pa_nil))) pa_nil))))
      (pss_cons (ps_set (i := 4) sc_Lkinds.nd rfl (Or.inl rfl) (pe_ix ix_list (pe_lst (pa_cons pe_int (pa_cons pe_int (pa_cons pe_int (pa_cons pe_int (pa_cons pe_int (pa_cons pe_int (pa_cons pe_int (pa_cons pe_int (pa_cons pe_int (pa_cons pe_int (pa_cons pe_int (pa_cons pe_int (pa_cons pe_int (pa_cons pe_int (pa_cons pe_int (pa_cons pe_int pa_nil))))))))))))))))) (pe_op op_mod (pv 1) pe_int) (fun _ _ => rfl)))
      (pss_cons (ps_set (i := 5) sc_Lkinds.nd rfl (Or.inl rfl) (pe_ix ix_list (pe_lst (pa_cons pe_int (pa_cons pe_int (pa_cons pe_int (pa_cons pe_int pa_nil))))) (pe_op op_mod (pe_op op_fdiv (pv 1) pe_int) pe_int) (fun _ _ => rfl)))
      (pss_cons (ps_set (i := 6) sc_Lkinds.nd rfl (Or.inl rfl) (pe_lst pa_nil))
      (pss_cons (ps_for PassesOwn.never rfl (pi_range1 rfl (z_range T) (pa_cons (pv 4) pa_nil)) (pg_name (i := 7) sc_Lkinds.nd rfl (Or.inl rfl))
      (pss_cons (ps_set (i := 8) sc_Lkinds.nd rfl (Or.inl rfl) (pe_op op_mod (pe_op op_add (pe_op op_fdiv (pv 1) pe_int) (pe_op op_mul (pv 5) (pv 7))) pe_int))
      (pss_one (ps_expr (pe_bm PySem.F.plainAttrs_list PySem.F.slot_list_append PySem.F.type_list_append mt_append (pv 6) (pa_cons (pe_tup (pa_cons (pe_ix ix_list (pv 2) (pe_op op_mod (pv 8) pe_int) (fun _ _ => rfl)) (pa_cons (pe_ix ix_list (pv 3) (pe_op op_fdiv (pv 8) pe_int) (fun _ _ => rfl)) pa_nil))) pa_nil))))))
      (pss_one (ps_ret (pv 6)))))))))), fun B0 H0 => ?_⟩
  obtain ⟨hm1, hm4, hme⟩ := many_rng (ns.getD 0 0)
  have cell : ∀ (Γ : Cxt) (k : Nat), Γ[0]? = some (some (.ab (Scr K ns))) → EvS (tCall (spD (fun ss s => ∃ (ns : List Int) (k : Nat), ss = [.ab (Scr K ns), dI (k : Int)] ∧ s = dI (ns.getD k 0)) noX) [] E0 (tCons (tVar 0) (tCons (tC (.int (k : Int))) tNil))) Γ (dI (ns.getD k 0)) := fun Γ k h0 => ev_call (ea_cons (ev_var h0) (ea_cons ev_int ea_nil)) ⟨ns, k, rfl, rfl⟩
  refine ws_seq (ws_asg (cell _ 0 rfl) ?_)
  refine ws_seq (ws_asg (s := dL ((stN ns).map .str)) (ev_fz (ev_call (ea_cons (cell _ 1 rfl) (ea_cons (cell _ 2 rfl) ea_nil)) ⟨_, _, rfl, rfl⟩)) ?_)
  refine ws_seq (ws_asg (s := dL ((usN ns).map .str)) (ev_fz (ev_call (ea_cons (cell _ 3 rfl) (ea_cons (cell _ 4 rfl) ea_nil)) ⟨_, _, rfl, rfl⟩)) ?_)
  obtain ⟨c, hc⟩ : ∃ c, c = ns.getD 0 0 := ⟨_, rfl⟩
  have hkl : (kindsN ns).length = manyN c := by rw [kinds_len, hc]
  rw [← hc] at hm1 hm4 hme ⊢
  have h16 := md_lt (a := c) (n := 16) (by decide)
  have h4 := md_lt (a := c / 16) (n := 4) (by decide)
  refine ws_seq (ws_asg (s := dI ((manyN c : Nat) : Int)) ((ev_ixL (κ := .pl) (ds := iL manyL) (ev_fz (ev_lst (κ := .pl) (ds := iL manyL) (ea_cons ev_int (ea_cons ev_int (ea_cons ev_int (ea_cons ev_int (ea_cons ev_int (ea_cons ev_int (ea_cons ev_int (ea_cons ev_int (ea_cons ev_int (ea_cons ev_int (ea_cons ev_int (ea_cons ev_int (ea_cons ev_int (ea_cons ev_int (ea_cons ev_int (ea_cons ev_int ea_nil)))))))))))))))) (by decide))) (ev_mod (ev_var rfl) ev_int (by decide)) (iL_at (l := manyL) h16.1 h16.2 1)).is (by rw [hme])) ?_)
  refine ws_seq (ws_asg (s := dI (stepN c)) (ev_ixL (κ := .pl) (ds := iL stepL) (ev_fz (ev_lst (κ := .pl) (ds := iL stepL) (ea_cons ev_int (ea_cons ev_int (ea_cons ev_int (ea_cons ev_int ea_nil)))) (by decide))) (ev_mod (ev_fdiv (ev_var rfl) ev_int ⟨by decide, by decide⟩) ev_int (by decide)) (iL_at (l := stepL) h4.1 h4.2 1)) ?_)
  refine ws_seq (ws_asg (ev_lst (ds := []) (κ := .pl) ea_nil (Nat.zero_le _)) ?_)
  refine ws_seq (ws_forR (n := manyN c) (ea_cons (ev_var rfl) ea_nil) (by omega) (fun i Γ' => ∃ a b, Γ' = [some (.ab (Scr K ns)), some (dI c), some (dL ((stN ns).map .str)), some (dL ((usN ns).map .str)), some (dI ((manyN c : Nat) : Int)), some (dI (stepN c)), some (.own ((ksL (kindsN ns)).take i)), a, b]) ⟨none, none, rfl⟩ ?_ ?_)
  · rintro k Γ' hk ⟨a, b, rfl⟩
    refine ws_seq (ws_asg (s := dI (spotN c k)) (ev_mod (ev_add (ev_fdiv (ev_var rfl) ev_int ⟨by decide, by decide⟩) (ev_mul (ev_var rfl) (ev_var rfl) (.inr ⟨by omega, by omega⟩))) ev_int (by decide)) ?_)
    have hs16 := md_lt (a := c / 64 + stepN c * (k : Int)) (n := 16) (by decide)
    have hs : 0 ≤ spotN c k ∧ spotN c k < 16 := hs16
    have hs4 := md_lt (a := spotN c k) (n := 4) (by decide)
    refine ws_app (κ := .pl) (d := kD (kindK (stN ns) (usN ns) c k)) rfl (ev_tup (κ := .pl) (ds := [.str ((stN ns).getD (spotN c k % 4).toNat ""), .str ((usN ns).getD (spotN c k / 4).toNat "")]) (ea_cons (ev_ixL (κ := .pl) (ds := (stN ns).map .str) (ev_var rfl) (ev_mod (ev_var rfl) ev_int (by decide)) (s_at hs4.1 (by rw [stN, names_len]; omega))) (ea_cons (ev_ixL (κ := .pl) (ds := (usN ns).map .str) (ev_var rfl) (ev_fdiv (ev_var rfl) ev_int ⟨by decide, by decide⟩) (s_at (by omega) (by rw [usN, names_len]; omega))) ea_nil)) (by simp)) (by rw [List.length_take]; have := ksL_len (ks := kindsN ns); omega) ⟨some (dI (k : Int)), some (dI (spotN c k)), ?_⟩
    have hget : (ksL (kindsN ns))[k]? = some (kD (kindK (stN ns) (usN ns) c k)) := by
      unfold ksL kindsN
      rw [List.getElem?_map, List.getElem?_map, ← hc, List.getElem?_range hk]
      rfl
    rw [List.take_add_one, hget]
    rfl
  · rintro Γ' ⟨a, b, rfl⟩
    rw [List.take_of_length_le (by rw [ksL_len, hkl]; exact Nat.le_refl _)]
    exact ws_retOwn rfl rfl
/-! notes -/
def kAt (ks : List Knd) (i : Int) : Knd := ks.getD (i % (ks.length : Int)).toNat ("", "")
def oneN (ks : List Knd) (cell : Int) : Knd := if cell / 80 % 6 = 1 then ((kAt ks (cell / 5)).2, (kAt ks (cell / 5)).1) else kAt ks (cell / 5)
def plainL (ks : List Knd) (cell : Int) : List Nt := [.any, .made (oneN ks cell).1, .used (oneN ks cell).2, .chief (oneN ks cell).1, .over (oneN ks cell) (kAt ks (cell / 20))]
def plnN (ks : List Knd) (cell : Int) : Nt := (plainL ks cell).getD (cell % 5).toNat .any
def wordN (n : Int) (a b : Nt) : Nt := if n = 0 then .both a b else if n = 1 then .either a b else .but a b
def noteM (ks : List Knd) : Nat → Int → Nt
  | 0, cell => plnN ks (cell / 3)
  | m + 1, cell => if cell % 3 = 0 then plnN ks (cell / 3) else wordN (cell / 3 % 3) (noteM ks m (cell * 48271 % 1000003)) (noteM ks m (cell * 69621 % 999983))
theorem k_at {ks : List Knd} {i : Int} (h : 1 ≤ ks.length) : atI (ksL ks) (i % (ks.length : Int)) = some (kD (kAt ks i)) := by
  have hm := md_lt (a := i) (n := (ks.length : Int)) (by omega)
  refine atI_in hm.1 ?_
  exact ks_get (by omega)
theorem ok_Lplain (T : Txt K mg) : FnOk P w K mg base CX0 1 746 (fdOf K 746) ["_law_cell", "_law_kinds_here"] (spD (fun ss s => ∃ (ks : List Knd) (cell : Int), ss = [dI cell, dL (ksL ks)] ∧ 1 ≤ ks.length ∧ s = .d (plnN ks cell).enc) noX) := by
  refine Fun.okD (f_Lplain T) sc_Lplain (fun ss s ⟨_, _, h, _⟩ => by rw [h]; rfl) fun cdv A outer h H E hr ss s ⟨ks, cell, hs, hk, hv⟩ => ?_
  subst hs hv
  refine ⟨_, (pss_cons (ps_set (i := 2) sc_Lplain.nd rfl (Or.inl rfl) (pe_ix ix_list (pv 1) (pe_op op_mod (pe_op op_fdiv (pv 0) pe_int) (pe_callB call_len rfl (z_len T) PySem.boot_len (pa_cons (pv 1) pa_nil))) (fun _ _ => rfl)))
      (pss_cons (ps_set (i := 3) sc_Lplain.nd rfl (Or.inl rfl) (pe_ix ix_list (pv 1) (pe_op op_mod (pe_op op_fdiv (pv 0) pe_int) (pe_callB call_len rfl (z_len T) PySem.boot_len (pa_cons (pv 1) pa_nil))) (fun _ _ => rfl)))
      (pss_cons (ps_if (pt_cmpR op_eq (pe_op op_mod (pe_op op_fdiv (pv 0) pe_int) pe_int) pe_int (nomark _)) (pss_one (ps_set (i := 2) sc_Lplain.nd rfl (Or.inl rfl) (pe_tup (pa_cons (pe_ix ix_tup (pv 2) pe_int (fun _ _ => rfl)) (pa_cons (pe_ix ix_tup (pv 2) pe_int (fun _ _ => rfl)) pa_nil))))) pss_nil)
      (pss_one (ps_ret (pe_ix ix_list (pe_lst (pa_cons (pe_tup (pa_cons pe_str pa_nil)) (pa_cons (pe_tup (pa_cons pe_str (pa_cons (pe_ix ix_tup (pv 2) pe_int (fun _ _ => rfl)) pa_nil))) (pa_cons (pe_tup (pa_cons pe_str (pa_cons (pe_ix ix_tup (pv 2) pe_int (fun _ _ => rfl)) pa_nil))) (pa_cons (pe_tup (pa_cons pe_str (pa_cons (pe_ix ix_tup (pv 2) pe_int (fun _ _ => rfl)) pa_nil))) (pa_cons (pe_tup (pa_cons pe_str (pa_cons (pv 2) (pa_cons (pv 3) pa_nil)))) pa_nil)))))) (pe_op op_mod (pv 0) pe_int) (fun _ _ => rfl))))))), fun B0 H0 => ?_⟩
  have pick : ∀ (Γ : Cxt) (n : Int), 0 < n ∧ n < 1073741824 → Γ[0]? = some (some (dI cell)) → Γ[1]? = some (some (dL (ksL ks))) → EvS (tOp (rIxL K) (tVar 1) (tOp (rI (fun _ j => 0 < j) fun i j => .int (i % j)) (tOp (rI CDiv fun i j => .int (i / j)) (tVar 0) (tC (.int n))) (tCB (rLen K) (tCons (tVar 1) tNil)))) Γ (.d (kD (kAt ks (cell / n)))) := fun Γ n hn e0 e1 =>
    ev_ixL (κ := .pl) (ds := ksL ks) (ev_var e1) (ev_mod (ev_fdiv (ev_var e0) ev_int hn) ((ev_lenL (ds := ksL ks) (ev_var e1)).is (by rw [ksL_len])) (by omega)) (k_at hk)
  refine ws_seq (ws_asg (pick _ 5 (by decide) rfl rfl) ?_)
  refine ws_seq (ws_asg (pick _ 20 (by decide) rfl rfl) ?_)
  refine ws_seq (ws_mono (E := { nx := fun Γ' => Γ' = [some (dI cell), some (dL (ksL ks)), some (.d (kD (oneN ks cell))), some (.d (kD (kAt ks (cell / 20))))], rt := fun _ => False }) (ws_if (b := decide (cell / 80 % 6 = 1)) (et_test (ev_eqI (ev_mod (ev_fdiv (ev_var rfl) ev_int ⟨by decide, by decide⟩) ev_int (by decide)) ev_int)) (fun hb => ?_) fun hb => ws_next ?_) ?_ (fun _ h => h.elim) (fun _ h => h.elim) fun _ h => h.elim)
  · refine ws_asg (ev_tup (κ := .pl) (ds := [.str (kAt ks (cell / 5)).2, .str (kAt ks (cell / 5)).1]) (ea_cons (ev_ixT (ds := [.str (kAt ks (cell / 5)).1, .str (kAt ks (cell / 5)).2]) (ev_var rfl) ev_int rfl) (ea_cons (ev_ixT (ds := [.str (kAt ks (cell / 5)).1, .str (kAt ks (cell / 5)).2]) (ev_var rfl) ev_int rfl) ea_nil)) (by simp)) ?_
    have e : oneN ks cell = ((kAt ks (cell / 5)).2, (kAt ks (cell / 5)).1) := if_pos (of_decide_eq_true hb)
    rw [e]
    rfl
  · have e : oneN ks cell = kAt ks (cell / 5) := if_neg (of_decide_eq_false hb)
    rw [e]
    rfl
  · rintro Γ' rfl
    have h5 := md_lt (a := cell) (n := 5) (by decide)
    have o1 : ∀ (i : Int) (d : PyData), atI [PyData.str (oneN ks cell).1, .str (oneN ks cell).2] i = some d → EvS (tOp (rIxT K) (tVar 2) (tC (.int i))) [some (dI cell), some (dL (ksL ks)), some (.d (kD (oneN ks cell))), some (.d (kD (kAt ks (cell / 20))))] (.d d) := fun i d e => ev_ixT (ds := [.str (oneN ks cell).1, .str (oneN ks cell).2]) (ev_var rfl) ev_int e
    refine ws_ret (ev_ixL (κ := .pl) (ds := (plainL ks cell).map Nt.enc) (ev_fz (ev_lst (κ := .pl) (ds := (plainL ks cell).map Nt.enc)
      (ea_cons (ev_tup (κ := .pl) (ds := [.str "any"]) (ea_cons ev_str ea_nil) (by simp))
      (ea_cons (ev_tup (κ := .pl) (ds := [.str "made", .str (oneN ks cell).1]) (ea_cons ev_str (ea_cons (o1 _ _ rfl) ea_nil)) (by simp))
      (ea_cons (ev_tup (κ := .pl) (ds := [.str "used", .str (oneN ks cell).2]) (ea_cons ev_str (ea_cons (o1 _ _ rfl) ea_nil)) (by simp))
      (ea_cons (ev_tup (κ := .pl) (ds := [.str "chief", .str (oneN ks cell).1]) (ea_cons ev_str (ea_cons (o1 _ _ rfl) ea_nil)) (by simp))
      (ea_cons (ev_tup (κ := .pl) (ds := [.str "over", kD (oneN ks cell), kD (kAt ks (cell / 20))]) (ea_cons ev_str (ea_cons (ev_var rfl) (ea_cons (ev_var rfl) ea_nil))) (by simp))
      ea_nil))))) (by simp [plainL]))) (ev_mod (ev_var rfl) ev_int (by decide)) (d := (plnN ks cell).enc) (atI_in h5.1 ?_)) rfl
    have h5n : (cell % 5).toNat < (plainL ks cell).length := by show _ < 5; omega
    rw [List.getElem?_map, List.getElem?_eq_getElem h5n]
    unfold plnN
    rw [List.getD_eq_getElem?_getD, List.getElem?_eq_getElem h5n]
    rfl
theorem ok_Lnote (T : Txt K mg) : ∀ m : Nat, FnOk P w K mg base CX0 (m + 2) 753 (fdOf K 753) ["_law_cell", "_law_kinds_here", "_law_deep"] (spD (fun ss s => ∃ (ks : List Knd) (cell : Int), ss = [dI cell, dL (ksL ks), dI ((m : Int) + 1)] ∧ 1 ≤ ks.length ∧ s = .d (noteM ks m cell).enc) noX)
  | 0 => by
    refine Fun.okD (f_Lnote T) sc_Lnote (fun ss s ⟨_, _, h, _⟩ => by rw [h]; rfl) fun cdv A outer h H E hr ss s ⟨ks, cell, hs, hk, hv⟩ => ?_
    subst hs hv
    refine ⟨_, (pss_cons (ps_if (PW.pt (pw_or (pt_cmpR op_eq (pv 2) pe_int (nomark _)) (pw_or1 (pt_cmpR op_eq (pe_op op_mod (pv 0) pe_int) pe_int (nomark _))))) (pss_one (ps_ret (pe_call (ok_Lplain T) (hr.mono (by decide)) rfl (g_Lplain T) (f_Lplain T).kp (b_Lplain T) .nil pass0 (pa_cons (pe_op op_fdiv (pv 0) pe_int) (pa_cons (pv 1) pa_nil))))) pss_nil)
      (pss_cons ps_never
      (pss_cons ps_never
      (pss_one (ps_ret (pe_tup (pa_cons (pe_ix ix_list (pe_lst (pa_cons pe_str (pa_cons pe_str (pa_cons pe_str pa_nil)))) (pe_op op_mod (pe_op op_fdiv (pv 0) pe_int) pe_int) (fun _ _ => rfl)) (pa_cons (pv 3) (pa_cons (pv 4) pa_nil))))))))), fun B0 H0 => ?_⟩
    exact ws_seq (ws_if (b := true) ((et_or (a := true) (b := true) (et_eqiT (ev_var rfl) rfl) fun h => by cases h).is rfl) (fun _ => ws_ret (ev_call (ea_cons (ev_fdiv (ev_var rfl) ev_int ⟨by decide, by decide⟩) (ea_cons (ev_var rfl) ea_nil)) ⟨ks, _, rfl, hk, rfl⟩) rfl) fun h => by cases h)
  | m + 1 => by
    refine Fun.okD (f_Lnote T) sc_Lnote (fun ss s ⟨_, _, h, _⟩ => by rw [h]; rfl) fun cdv A outer h H E hr ss s ⟨ks, cell, hs, hk, hv⟩ => ?_
    subst hs hv
    refine ⟨_, (pss_cons (ps_if (PW.pt (pw_or (pt_cmpR op_eq (pv 2) pe_int (nomark _)) (pw_or1 (pt_cmpR op_eq (pe_op op_mod (pv 0) pe_int) pe_int (nomark _))))) (pss_one (ps_ret (pe_call (ok_Lplain T) (hr.mono (by omega)) rfl (g_Lplain T) (f_Lplain T).kp (b_Lplain T) .nil pass0 (pa_cons (pe_op op_fdiv (pv 0) pe_int) (pa_cons (pv 1) pa_nil))))) pss_nil)
      (pss_cons (ps_set (i := 3) sc_Lnote.nd rfl (Or.inl rfl) (pe_call (ok_Lnote T m) (hr.mono (by omega)) rfl (g_Lnote T) (f_Lnote T).kp (b_Lnote T) .nil pass0 (pa_cons (pe_op op_mod (pe_op op_mul (pv 0) pe_int) pe_int) (pa_cons (pv 1) (pa_cons (pe_op op_sub (pv 2) pe_int) pa_nil)))))
      (pss_cons (ps_set (i := 4) sc_Lnote.nd rfl (Or.inl rfl) (pe_call (ok_Lnote T m) (hr.mono (by omega)) rfl (g_Lnote T) (f_Lnote T).kp (b_Lnote T) .nil pass0 (pa_cons (pe_op op_mod (pe_op op_mul (pv 0) pe_int) pe_int) (pa_cons (pv 1) (pa_cons (pe_op op_sub (pv 2) pe_int) pa_nil)))))
      (pss_one (ps_ret (pe_tup (pa_cons (pe_ix ix_list (pe_lst (pa_cons pe_str (pa_cons pe_str (pa_cons pe_str pa_nil)))) (pe_op op_mod (pe_op op_fdiv (pv 0) pe_int) pe_int) (fun _ _ => rfl)) (pa_cons (pv 3) (pa_cons (pv 4) pa_nil))))))))), fun B0 H0 => ?_⟩
    refine ws_seq (ws_if (b := decide (cell % 3 = 0)) ((et_or (a := false) ((et_test (ev_eqI (ev_var rfl) ev_int)).is (decide_eq_false (by omega))) fun _ => et_test (ev_eqI (ev_mod (ev_var rfl) ev_int (by decide)) ev_int)).is (by rw [Bool.false_or])) (fun hb => ?_) fun hb => ws_next ?_)
    · refine ws_ret (ev_call (ea_cons (ev_fdiv (ev_var rfl) ev_int ⟨by decide, by decide⟩) (ea_cons (ev_var rfl) ea_nil)) ⟨ks, _, rfl, hk, rfl⟩) ?_
      have e : noteM ks (m + 1) cell = plnN ks (cell / 3) := if_pos (of_decide_eq_true hb)
      rw [e]
    · have e : noteM ks (m + 1) cell = wordN (cell / 3 % 3) (noteM ks m (cell * 48271 % 1000003)) (noteM ks m (cell * 69621 % 999983)) := if_neg (of_decide_eq_false hb)
      rw [e]
      have sub : ∀ (Γ : Cxt), Γ[2]? = some (some (dI (((m + 1 : Nat) : Int) + 1))) → EvS (tOp (rI0 fun i j => .int (i - j)) (tVar 2) (tC (.int 1))) Γ (dI ((m : Int) + 1)) := fun Γ e2 => (ev_sub (ev_var e2) ev_int).is (by congr 2; omega)
      refine ws_seq (ws_asg (ev_call (ea_cons (ev_mod (ev_mul (ev_var rfl) ev_int (.inr ⟨by decide, by decide⟩)) ev_int (by decide)) (ea_cons (ev_var rfl) (ea_cons (sub _ rfl) ea_nil))) ⟨ks, _, rfl, hk, rfl⟩) ?_)
      refine ws_seq (ws_asg (ev_call (ea_cons (ev_mod (ev_mul (ev_var rfl) ev_int (.inr ⟨by decide, by decide⟩)) ev_int (by decide)) (ea_cons (ev_var rfl) (ea_cons (sub _ rfl) ea_nil))) ⟨ks, _, rfl, hk, rfl⟩) ?_)
      have h3 := md_lt (a := cell / 3) (n := 3) (by decide)
      obtain ⟨a, ha⟩ : ∃ a, a = noteM ks m (cell * 48271 % 1000003) := ⟨_, rfl⟩
      obtain ⟨b, hb2⟩ : ∃ a, a = noteM ks m (cell * 69621 % 999983) := ⟨_, rfl⟩
      rw [← ha, ← hb2]
      obtain ⟨wd, hw, hww⟩ : ∃ wd : Str, atI [PyData.str "both", .str "either", .str "but"] (cell / 3 % 3) = some (.str wd) ∧ (wordN (cell / 3 % 3) a b).enc = .tuple [.str wd, a.enc, b.enc] := by
        have : cell / 3 % 3 = 0 ∨ cell / 3 % 3 = 1 ∨ cell / 3 % 3 = 2 := by omega
        rcases this with h | h | h
        · exact ⟨"both", by rw [h]; rfl, by rw [h]; rfl⟩
        · exact ⟨"either", by rw [h]; rfl, by rw [h]; rfl⟩
        · exact ⟨"but", by rw [h]; rfl, by rw [h]; rfl⟩
      rw [hww]
      exact ws_ret (ev_tup (κ := .pl) (ds := [.str wd, a.enc, b.enc]) (ea_cons (ev_ixL (κ := .pl) (ds := [.str "both", .str "either", .str "but"]) (ev_fz (ev_lst (κ := .pl) (ds := [.str "both", .str "either", .str "but"]) (ea_cons ev_str (ea_cons ev_str (ea_cons ev_str ea_nil))) (by simp))) (ev_mod (ev_fdiv (ev_var rfl) ev_int ⟨by decide, by decide⟩) ev_int (by decide)) hw) (ea_cons (ev_var rfl) (ea_cons (ev_var rfl) ea_nil))) (by simp)) rfl
end TG
set_option Elab.async false
set_option linter.all false
set_option maxRecDepth 100000
set_option maxHeartbeats 4000000
/-! W27: the law's rows, in plain Lean. -/
namespace TG
open PySem PySem.Spec PyProof.Rows L2
theorem kAt_mem {ks : List Knd} (h : 1 ≤ ks.length) (i : Int) : kAt ks i ∈ ks := by
  have hm := md_lt (a := i) (n := (ks.length : Int)) (by omega)
  have hn : (i % (ks.length : Int)).toNat < ks.length := by omega
  unfold kAt
  rw [List.getD_eq_getElem?_getD, List.getElem?_eq_getElem hn]
  exact List.getElem_mem hn
theorem oneN_ok {ks : List Knd} (h : KsOk ks) (c : Int) : kndB (oneN ks c) = true := by
  have h1 := h.nm _ (kAt_mem h.pos (c / 5))
  unfold oneN
  split
  · unfold kndB at h1 ⊢
    rw [Bool.and_eq_true] at h1 ⊢
    exact ⟨h1.2, h1.1⟩
  · exact h1
theorem pln_ok {ks : List Knd} (h : KsOk ks) (c : Int) : (plnN ks c).ok = true ∧ (plnN ks c).dep = 1 := by
  have h1 := oneN_ok h c
  have h2 := h.nm _ (kAt_mem h.pos (c / 20))
  have h3 := h1
  unfold kndB at h3
  rw [Bool.and_eq_true] at h3
  have h5 := md_lt (a := c) (n := 5) (by decide)
  have hi : (c % 5).toNat < 5 := by omega
  unfold plnN plainL
  generalize (c % 5).toNat = i at hi
  match i, hi with
  | 0, _ => exact ⟨rfl, rfl⟩
  | 1, _ => exact ⟨h3.1, rfl⟩
  | 2, _ => exact ⟨h3.2, rfl⟩
  | 3, _ => exact ⟨h3.1, rfl⟩
  | 4, _ => exact ⟨by show (kndB _ && kndB _) = true; rw [h1, h2]; rfl, rfl⟩
theorem word_ok (n : Int) {a b : Nt} {m : Nat} (ha : a.ok = true ∧ a.dep ≤ m) (hb : b.ok = true ∧ b.dep ≤ m) : (wordN n a b).ok = true ∧ (wordN n a b).dep ≤ m + 1 := by
  have h2 : max a.dep b.dep + 1 ≤ m + 1 := by omega
  have h1 : (a.ok && b.ok) = true := by rw [ha.1, hb.1]; rfl
  unfold wordN
  split
  · exact ⟨h1, h2⟩
  · split
    · exact ⟨h1, h2⟩
    · exact ⟨h1, h2⟩
theorem note_ok {ks : List Knd} (h : KsOk ks) : ∀ (m : Nat) (c : Int), (noteM ks m c).ok = true ∧ (noteM ks m c).dep ≤ m + 1
  | 0, c => ⟨(pln_ok h _).1, by rw [noteM, (pln_ok h _).2]; omega⟩
  | m + 1, c => by
    unfold noteM
    split
    · exact ⟨(pln_ok h _).1, by rw [(pln_ok h _).2]; omega⟩
    · exact word_ok _ (note_ok h m _) (note_ok h m _)
instance : Inhabited Rw := ⟨⟨[], .any, true⟩⟩
def sibs (rows : List Rw) (at_ : List Int) : List Rw := rows.filter fun r => decide (r.num.dropLast = at_)
def atR (rows : List Rw) (more : Int) : List Int := if rows ≠ [] ∧ more % 2 = 1 then (rows.getD (more / 2 % (rows.length : Int)).toNat default).num.take 3 else []
def noteR (ks : List Knd) (more : Int) (el : List Rw) : Nt := if 1 < more / 16 % 4 ∧ el.length = 1 then .but .any (el.getD 0 default).note else if more / 16 % 4 = 1 then .any else noteM ks (2 - ks.length / 4) (more * 16807 % 1000003)
def numR (c : Int) (at_ : List Int) (e : Nat) : List Int := at_ ++ [1 + (c / 8 + 37 * (e : Int)) % 99]
def rowR (ks : List Knd) (c more : Int) (rows : List Rw) : Rw := ⟨numR c (atR rows more) (sibs rows (atR rows more)).length, noteR ks more (sibs rows (atR rows more)), decide (more / 64 % 2 = 0)⟩
def rowsR (ks : List Knd) (ns : List Int) : Nat → List Rw
  | 0 => []
  | k + 1 => rowsR ks ns k ++ [rowR ks (ns.getD 5 0) (ns.getD (6 + k) 0) (rowsR ks ns k)]
def boundL : List Int := [8, 8, 6, 3]
def boundN (ks : List Knd) (c : Int) : Nat := (1 + c % boundL.getD (ks.length - 1) 1).toNat
def rowsG (ks : List Knd) (ns : List Int) : List Rw := rowsR ks ns (boundN ks (ns.getD 5 0))
structure RI (c : Int) (rows : List Rw) : Prop where
  len : ∀ r ∈ rows, r.num.length ≤ 4 ∧ r.num ≠ []
  val : ∀ r ∈ rows, ∀ x ∈ r.num, 1 ≤ x ∧ x ≤ 99
  nod : (rows.map Rw.num).Nodup
  clo : ∀ r ∈ rows, 1 < r.num.length → r.num.dropLast ∈ rows.map Rw.num
  ok : ∀ r ∈ rows, r.note.ok = true
  dep : ∀ r ∈ rows, r.note.dep ≤ 4
  sib : ∀ at_, (sibs rows at_).map Rw.num = (List.range (sibs rows at_).length).map (numR c at_)
  hd : ∀ at_ r, (sibs rows at_).head? = some r → r.note.dep ≤ 3
theorem num_drop (c : Int) (at_ : List Int) (e : Nat) : (numR c at_ e).dropLast = at_ := by unfold numR; rw [List.dropLast_concat]
theorem sibs_snoc (rows : List Rw) (r : Rw) (at_ : List Int) : sibs (rows ++ [r]) at_ = sibs rows at_ ++ (if r.num.dropLast = at_ then [r] else []) := by
  unfold sibs
  rw [List.filter_append]
  congr 1
  by_cases h : r.num.dropLast = at_
  · rw [if_pos h, List.filter_cons_of_pos (by simpa using h)]; rfl
  · rw [if_neg h, List.filter_cons_of_neg (by simpa using h)]; rfl
theorem numR_inj {c : Int} {at_ : List Int} {e f : Nat} (he : e < 24) (hf : f < 24) (h : numR c at_ e = numR c at_ f) : e = f := by
  unfold numR at h
  have h2 := List.append_cancel_left h
  injection h2 with h3
  omega
theorem RI.step {c : Int} {rows : List Rw} (h : RI c rows) (hl : rows.length ≤ 8) {at_ : List Int} (ha : at_ = [] ∨ (at_ ∈ rows.map Rw.num ∧ at_.length ≤ 3)) {nt : Nt} (hn : nt.ok = true) (h4 : nt.dep ≤ 4) (h3 : sibs rows at_ = [] → nt.dep ≤ 3) (one : Bool) : RI c (rows ++ [⟨numR c at_ (sibs rows at_).length, nt, one⟩]) := by
  obtain ⟨r, hr⟩ : ∃ r : Rw, r = ⟨numR c at_ (sibs rows at_).length, nt, one⟩ := ⟨_, rfl⟩
  have hnum : r.num = numR c at_ (sibs rows at_).length := by rw [hr]
  have hnote : r.note = nt := by rw [hr]
  have hdr : r.num.dropLast = at_ := by rw [hnum, num_drop]
  rw [← hr]
  have hsl : (sibs rows at_).length ≤ 8 := Nat.le_trans (List.length_filter_le _ _) hl
  have mem : ∀ {q : Rw}, q ∈ rows ++ [r] → q ∈ rows ∨ q = r := fun {q} hq => by
    rcases List.mem_append.mp hq with h | h
    · exact .inl h
    · exact .inr (List.mem_singleton.mp h)
  refine ⟨fun q hq => ?_, fun q hq => ?_, ?_, fun q hq h1 => ?_, fun q hq => ?_, fun q hq => ?_, fun a => ?_, fun a q hq => ?_⟩
  · rcases mem hq with hq | rfl
    · exact h.len q hq
    · rw [hnum]
      unfold numR
      refine ⟨?_, by simp⟩
      rw [List.length_append]
      rcases ha with rfl | ⟨_, h5⟩
      · simp
      · simp only [List.length_cons, List.length_nil]; omega
  · rcases mem hq with hq | rfl
    · exact h.val q hq
    · rw [hnum]
      intro x hx
      rcases List.mem_append.mp hx with hx | hx
      · rcases ha with rfl | ⟨h5, _⟩
        · cases hx
        · obtain ⟨q, hq, rfl⟩ := List.mem_map.mp h5
          exact h.val q hq x hx
      · rw [List.mem_singleton] at hx
        omega
  · rw [List.map_append, List.map_cons, List.map_nil]
    rw [List.nodup_append]
    refine ⟨h.nod, by simp, fun x hx y hy => ?_⟩
    rw [List.mem_singleton] at hy
    subst hy
    rintro rfl
    obtain ⟨q, hq, e⟩ := List.mem_map.mp hx
    have hqs : q ∈ sibs rows at_ := List.mem_filter.mpr ⟨hq, by rw [e, hdr]; exact decide_eq_true rfl⟩
    have hm : q.num ∈ (sibs rows at_).map Rw.num := List.mem_map.mpr ⟨q, hqs, rfl⟩
    rw [h.sib at_] at hm
    obtain ⟨f, hf, e2⟩ := List.mem_map.mp hm
    have hf2 := List.mem_range.mp hf
    rw [e, hnum] at e2
    have := numR_inj (by omega) (by omega) e2
    omega
  · rw [List.map_append]
    rcases mem hq with hq | rfl
    · exact List.mem_append_left _ (h.clo q hq h1)
    · rw [hdr]
      rcases ha with rfl | ⟨h5, _⟩
      · rw [hnum] at h1
        simp [numR] at h1
      · exact List.mem_append_left _ h5
  · rcases mem hq with hq | rfl
    · exact h.ok q hq
    · rw [hnote]; exact hn
  · rcases mem hq with hq | rfl
    · exact h.dep q hq
    · rw [hnote]; exact h4
  · rw [sibs_snoc, List.map_append, h.sib a, List.length_append]
    by_cases e : r.num.dropLast = a
    · rw [if_pos e]
      have ea : a = at_ := by rw [← e, hdr]
      subst ea
      rw [List.length_singleton, List.range_succ, List.map_append, List.map_cons, List.map_nil, hnum]
      rfl
    · rw [if_neg e]
      simp
  · rw [sibs_snoc] at hq
    cases hs : sibs rows a with
    | cons x l =>
      rw [hs] at hq
      exact h.hd a q (by rw [hs]; exact hq)
    | nil =>
      rw [hs] at hq
      by_cases e : r.num.dropLast = a
      · rw [if_pos e] at hq
        have ea : a = at_ := by rw [← e, hdr]
        cases hq
        rw [hnote]
        exact h3 (by rw [← ea]; exact hs)
      · rw [if_neg e] at hq
        cases hq
theorem atR_ok {c : Int} {rows : List Rw} (h : RI c rows) (more : Int) : atR rows more = [] ∨ (atR rows more ∈ rows.map Rw.num ∧ (atR rows more).length ≤ 3) := by
  unfold atR
  split
  · next hc =>
    have hp := List.length_pos_iff.mpr hc.1
    have hm := md_lt (a := more / 2) (n := (rows.length : Int)) (by omega)
    have hn : (more / 2 % (rows.length : Int)).toNat < rows.length := by omega
    have hr : rows.getD (more / 2 % (rows.length : Int)).toNat default ∈ rows := by
      rw [List.getD_eq_getElem?_getD, List.getElem?_eq_getElem hn]
      exact List.getElem_mem hn
    generalize rows.getD (more / 2 % (rows.length : Int)).toNat default = r at hr
    obtain ⟨h4, hne⟩ := h.len r hr
    refine .inr ⟨?_, by rw [List.length_take]; omega⟩
    by_cases h3 : r.num.length ≤ 3
    · rw [List.take_of_length_le h3]
      exact List.mem_map.mpr ⟨r, hr, rfl⟩
    · have e : r.num.take 3 = r.num.dropLast := by rw [List.dropLast_eq_take]; congr 1; omega
      rw [e]
      exact h.clo r hr (by omega)
  · exact .inl rfl
theorem noteR_ok {c : Int} {ks : List Knd} {rows : List Rw} (hk : KsOk ks) (h : RI c rows) (more : Int) (at_ : List Int) : (noteR ks more (sibs rows at_)).ok = true ∧ (noteR ks more (sibs rows at_)).dep ≤ 4 ∧ (sibs rows at_ = [] → (noteR ks more (sibs rows at_)).dep ≤ 3) := by
  unfold noteR
  split
  · next hc =>
    cases hs : sibs rows at_ with
    | nil => rw [hs] at hc; exact absurd hc.2 (by decide)
    | cons r l =>
      have hr : r ∈ rows := (List.mem_filter.mp (by unfold sibs at hs; rw [hs]; exact List.mem_cons_self ..)).1
      have h3 := h.hd at_ r (by rw [hs]; rfl)
      refine ⟨?_, ?_, fun z => by cases z⟩
      · show (true && r.note.ok) = true
        rw [h.ok r hr]; rfl
      · show max 1 r.note.dep + 1 ≤ 4
        omega
  · split
    · exact ⟨rfl, by show 1 ≤ 4; decide, fun _ => by show 1 ≤ 3; decide⟩
    · obtain ⟨h1, h2⟩ := note_ok hk (2 - ks.length / 4) (more * 16807 % 1000003)
      exact ⟨h1, by omega, fun _ => by omega⟩
theorem rowsR_len (ks : List Knd) (ns : List Int) : ∀ k, (rowsR ks ns k).length = k
  | 0 => rfl
  | k + 1 => by rw [rowsR, List.length_append, rowsR_len ks ns k]; rfl
theorem rowsR_ok {ks : List Knd} (hk : KsOk ks) (ns : List Int) : ∀ k, k ≤ 8 → RI (ns.getD 5 0) (rowsR ks ns k)
  | 0, _ => ⟨(fun _ h => nomatch h), (fun _ h => nomatch h), List.nodup_nil, (fun _ h => nomatch h), (fun _ h => nomatch h), (fun _ h => nomatch h), (fun _ => rfl), (fun _ _ h => nomatch h)⟩
  | k + 1, hle => by
    have ih := rowsR_ok hk ns k (by omega)
    obtain ⟨h1, h2, h3⟩ := noteR_ok hk ih (ns.getD (6 + k) 0) (atR (rowsR ks ns k) (ns.getD (6 + k) 0))
    exact ih.step (by rw [rowsR_len]; omega) (atR_ok ih _) h1 h2 h3 _
theorem bound_le {ks : List Knd} (hk : KsOk ks) (c : Int) : 1 ≤ boundN ks c ∧ boundN ks c ≤ 8 ∧ ((boundN ks c : Nat) : Int) = 1 + c % boundL.getD (ks.length - 1) 1 := by
  have h1 := hk.pos
  have h2 := hk.le
  have hb : ∀ i < 4, 1 ≤ boundL.getD i 1 ∧ boundL.getD i 1 ≤ 8 := by decide
  obtain ⟨h3, h4⟩ := hb (ks.length - 1) (by omega)
  have h5 := md_lt (a := c) (n := boundL.getD (ks.length - 1) 1) (by omega)
  unfold boundN
  refine ⟨by omega, by omega, by omega⟩
theorem rowsG_ok {ks : List Knd} (hk : KsOk ks) (ns : List Int) : RI (ns.getD 5 0) (rowsG ks ns) ∧ 1 ≤ (rowsG ks ns).length ∧ (rowsG ks ns).length ≤ 8 := by
  obtain ⟨h1, h2, _⟩ := bound_le hk (ns.getD 5 0)
  unfold rowsG
  rw [rowsR_len]
  exact ⟨rowsR_ok hk ns _ h2, h1, h2⟩
end TG
set_option Elab.async false
set_option linter.all false
set_option maxRecDepth 100000
set_option maxHeartbeats 4000000
/-! W28: the law's rows. -/
namespace TG
open PySem PySem.Spec PyProof.Rows L2
variable {P : Program} {w : World} {K : KF} {mg : Str → Option Value} {base : Heap}
theorem gd_str1 {x : Str} (h : nameB x = true) : Gd 0 (.str x) := gd_str (ok_name h)
theorem gd_nt : ∀ {n : Nt}, n.ok = true → Gd (n.dep + 1) n.enc
  | .any, _ => gd_tup (n := 1) fun d h => by
    rw [List.mem_singleton] at h; subst h
    exact (gd_str (by decide +kernel)).mono (by decide)
  | .made s, hs => gd_tup (n := 1) fun d h => by
    simp only [List.mem_cons, List.not_mem_nil, or_false] at h
    rcases h with rfl | rfl
    · exact (gd_str (by decide +kernel)).mono (by decide)
    · exact (gd_str1 hs).mono (by decide)
  | .used s, hs => gd_tup (n := 1) fun d h => by
    simp only [List.mem_cons, List.not_mem_nil, or_false] at h
    rcases h with rfl | rfl
    · exact (gd_str (by decide +kernel)).mono (by decide)
    · exact (gd_str1 hs).mono (by decide)
  | .chief s, hs => gd_tup (n := 1) fun d h => by
    simp only [List.mem_cons, List.not_mem_nil, or_false] at h
    rcases h with rfl | rfl
    · exact (gd_str (by decide +kernel)).mono (by decide)
    · exact (gd_str1 hs).mono (by decide)
  | .over a b, hs => gd_tup (n := 1) fun d h => by
    have hs2 : (kndB a && kndB b) = true := hs
    rw [Bool.and_eq_true] at hs2
    simp only [List.mem_cons, List.not_mem_nil, or_false] at h
    rcases h with rfl | rfl | rfl
    · exact (gd_str (by decide +kernel)).mono (by decide)
    · exact gd_k (ok_knd hs2.1)
    · exact gd_k (ok_knd hs2.2)
  | .both a b, hs => gd_tup (n := max a.dep b.dep + 1) fun d h => by
    have hs2 : (a.ok && b.ok) = true := hs
    rw [Bool.and_eq_true] at hs2
    simp only [List.mem_cons, List.not_mem_nil, or_false] at h
    rcases h with rfl | rfl | rfl
    · exact (gd_str (by decide +kernel)).mono (by omega)
    · exact (gd_nt hs2.1).mono (by omega)
    · exact (gd_nt hs2.2).mono (by omega)
  | .either a b, hs => gd_tup (n := max a.dep b.dep + 1) fun d h => by
    have hs2 : (a.ok && b.ok) = true := hs
    rw [Bool.and_eq_true] at hs2
    simp only [List.mem_cons, List.not_mem_nil, or_false] at h
    rcases h with rfl | rfl | rfl
    · exact (gd_str (by decide +kernel)).mono (by omega)
    · exact (gd_nt hs2.1).mono (by omega)
    · exact (gd_nt hs2.2).mono (by omega)
  | .but a b, hs => gd_tup (n := max a.dep b.dep + 1) fun d h => by
    have hs2 : (a.ok && b.ok) = true := hs
    rw [Bool.and_eq_true] at hs2
    simp only [List.mem_cons, List.not_mem_nil, or_false] at h
    rcases h with rfl | rfl | rfl
    · exact (gd_str (by decide +kernel)).mono (by omega)
    · exact (gd_nt hs2.1).mono (by omega)
    · exact (gd_nt hs2.2).mono (by omega)
theorem gd_rows {rows : List Rw} {m : Nat} (h : ∀ r ∈ rows, r.note.ok = true ∧ r.note.dep ≤ m) : Gd (m + 3) (.list (rwL rows)) := gd_lst (n := m + 2) fun d hd => by
  obtain ⟨r, hr, rfl⟩ := List.mem_map.mp hd
  obtain ⟨h1, h2⟩ := h r hr
  refine gd_tup (n := m + 1) fun d hd => ?_
  simp only [List.mem_cons, List.not_mem_nil, or_false] at hd
  rcases hd with rfl | rfl | rfl
  · exact (gd_N _).mono (by omega)
  · exact (gd_nt h1).mono (by omega)
  · refine (gd_str ?_).mono (by omega)
    cases r.one <;> decide +kernel
theorem noL_N (n : List Int) : noL (encN n) = true := by
  show noLA (n.map PyData.int) = true
  rw [noLA_iff]
  intro d hd
  obtain ⟨i, _, rfl⟩ := List.mem_map.mp hd
  rfl
theorem noL_nt : ∀ n : Nt, noL n.enc = true
  | .any => rfl
  | .made s => rfl
  | .used s => rfl
  | .chief s => rfl
  | .over a b => rfl
  | .both a b => by show (true && (noL a.enc && (noL b.enc && true))) = true; rw [noL_nt a, noL_nt b]; rfl
  | .either a b => by show (true && (noL a.enc && (noL b.enc && true))) = true; rw [noL_nt a, noL_nt b]; rfl
  | .but a b => by show (true && (noL a.enc && (noL b.enc && true))) = true; rw [noL_nt a, noL_nt b]; rfl
theorem noL_rw (r : Rw) : noL r.enc = true := by
  show (noL (encN r.num) && (noL r.note.enc && (true && true))) = true
  rw [noL_N, noL_nt]; rfl
theorem noLA_rows (rows : List Rw) : noLA (rwL rows) = true := by
  rw [noLA_iff]
  intro d hd
  obtain ⟨r, _, rfl⟩ := List.mem_map.mp hd
  exact noL_rw r
theorem ok_LnoteA (T : Txt K mg) : FnOk P w K mg base CX0 4 753 (fdOf K 753) ["_law_cell", "_law_kinds_here", "_law_deep"] (spD (fun ss s => ∃ m : Nat, m ≤ 2 ∧ ∃ (ks : List Knd) (cell : Int), ss = [dI cell, dL (ksL ks), dI ((m : Int) + 1)] ∧ 1 ≤ ks.length ∧ s = .d (noteM ks m cell).enc) noX) := FnOk.all fun m => by
  by_cases h : m ≤ 2
  · refine ((ok_Lnote T m).mono (by omega)).imp fun vs H Q E hs => ?_
    obtain ⟨B, ss, e, r, ⟨s, ⟨_, hp⟩, q⟩ | ⟨x, hx, _⟩⟩ := hs
    · exact ⟨B, ss, e, r, .inl ⟨s, hp, q⟩⟩
    · exact hx.elim
  · refine ((ok_Lnote T 0).mono (by decide)).imp fun vs H Q E hs => ?_
    obtain ⟨B, ss, e, r, ⟨s, ⟨h2, hp⟩, q⟩ | ⟨x, hx, _⟩⟩ := hs
    · exact absurd h2 h
    · exact hx.elim
theorem sibs_lc (rows : List Rw) (at_ : List Int) : ((rwL rows).filter fun d => decide ((rowNum d).dropLast = at_)).map id = rwL (sibs rows at_) := by
  rw [List.map_id]
  unfold rwL sibs
  rw [List.filter_map]
  congr 2
  funext r
  simp only [Function.comp, rowNum_enc]
theorem ok_Lrows (T : Txt K mg) : FnOk P w K mg base CX0 5 758 (fdOf K 758) ["_law_script", "_law_kinds_here"] (spD (fun ss s => ∃ (ns : List Int) (ks : List Knd), ss = [.ab (Scr K ns), dL (ksL ks)] ∧ KsOk ks ∧ s = .own (rwL (rowsG ks ns))) noX) := by
  refine Fun.okD (f_Lrows T) sc_Lrows (fun ss s ⟨_, _, h, _⟩ => by rw [h]; rfl) fun cdv A outer h H E hr ss s ⟨ns, ks, hs, hk, hv⟩ => ?_
  have hu65 := hu65_of hr
  have hu64 : A.units + 3 + 64 < cLine := hr.units
  subst hs hv
  have hkp := hk.pos
  have hkl := hk.le
  refine ⟨_, (pss_cons (ps_set (i := 2) sc_Lrows.nd rfl (Or.inl rfl) (pe_call (ok_Lcellat T) (hr.mono (by decide)) rfl (g_Lcellat T) (f_Lcellat T).kp (b_Lcellat T) .nil pass0 (pa_cons (pv 0) (pa_cons pe_int pa_nil))))
      (pss_cons (ps_set (i := 3) sc_Lrows.nd rfl (Or.inl rfl) (pe_lst pa_nil))
      (pss_cons (ps_for PassesOwn.never rfl (pi_range1 rfl (z_range T) (pa_cons (pe_op op_add pe_int (pe_op op_mod (pv 2) (pe_ix ix_list (pe_lst (pa_cons pe_int (pa_cons pe_int (pa_cons pe_int (pa_cons pe_int pa_nil))))) (pe_op op_sub (pe_callB call_len rfl (z_len T) PySem.boot_len (pa_cons (pv 1) pa_nil)) pe_int) (fun _ _ => rfl)))) pa_nil)) (pg_name (i := 4) sc_Lrows.nd rfl (Or.inl rfl))
      (pss_cons (ps_set (i := 5) sc_Lrows.nd rfl (Or.inl rfl) (pe_call (ok_Lcellat T) (hr.mono (by decide)) rfl (g_Lcellat T) (f_Lcellat T).kp (b_Lcellat T) .nil pass0 (pa_cons (pv 0) (pa_cons (pe_op op_add pe_int (pv 4)) pa_nil))))
      (pss_cons (ps_set (i := 6) sc_Lrows.nd rfl (Or.inr rfl) (pe_tup pa_nil))
      (pss_cons (ps_if (PW.pt (pw_and (pt_cmpR (op_neD hu64) (pv 3) (pe_lst pa_nil) (nomark _)) (pw_and1 (pt_cmpR op_eq (pe_op op_mod (pv 5) pe_int) pe_int (nomark _))))) (pss_one (ps_set (i := 6) sc_Lrows.nd rfl (Or.inr rfl) (pe_slice sl_tupA (pe_ix ix_tup (pe_ix ix_list (pv 3) (pe_op op_mod (pe_op op_fdiv (pv 5) pe_int) (pe_callB call_len rfl (z_len T) PySem.boot_len (pa_cons (pv 3) pa_nil))) (fun _ _ => rfl)) pe_int (fun _ _ => rfl)) po_none (po_some pe_int)))) pss_nil)
      (pss_cons (ps_setLc (i := 7) (own := [("_law_row", 10)]) rfl sc_Lrows.nd rfl rfl (sw_true rfl rfl rfl (by decide +kernel)) (pi_list (pv 3)) (blkOk_by (own := [("_law_row", 10)]) (N := N_Lrows) (sc := defScope s_Lrows) (by decide +kernel)) (fun _ _ _ _ _ => pg_name (i := 10) sc_Lrows.nd rfl (Or.inl rfl)) (fun _ _ _ _ _ => (pts_one (pt_cmpR (r := rEqD K) (op_eqD hu64) (pe_slice (r := rSlA K) sl_tupA (pe_ix (r := rIxT K) ix_tup (pv 10) pe_int (fun _ _ => rfl)) po_none (po_some (pe_un un_neg pe_int))) (pv 6) (nomark _)))) (fun _ _ _ _ _ => (pv 10)))
      (pss_cons (ps_set (i := 8) sc_Lrows.nd rfl (Or.inl rfl) (pe_call (ok_LnoteA T) (hr.mono (by decide)) rfl (g_Lnote T) (f_Lnote T).kp (b_Lnote T) .nil pass0 (pa_cons (pe_op op_mod (pe_op op_mul (pv 5) pe_int) pe_int) (pa_cons (pv 1) (pa_cons (pe_op op_sub pe_int (pe_op op_fdiv (pe_callB call_len rfl (z_len T) PySem.boot_len (pa_cons (pv 1) pa_nil)) pe_int)) pa_nil)))))
      (pss_cons (ps_if (pt_cmpR op_eq (pe_op op_mod (pe_op op_fdiv (pv 5) pe_int) pe_int) pe_int (nomark _)) (pss_one (ps_set (i := 8) sc_Lrows.nd rfl (Or.inl rfl) (pe_tup (pa_cons pe_str pa_nil)))) pss_nil)
      (pss_cons (ps_if (PW.pt (pw_and (pt_cmpR op_gt (pe_op op_mod (pe_op op_fdiv (pv 5) pe_int) pe_int) pe_int (nomark _)) (pw_and1 (pt_cmpR op_eq (pe_callB call_len rfl (z_len T) PySem.boot_len (pa_cons (pv 7) pa_nil)) pe_int (nomark _))))) (pss_one (ps_set (i := 8) sc_Lrows.nd rfl (Or.inl rfl) (pe_tup (pa_cons pe_str (pa_cons (pe_tup (pa_cons pe_str pa_nil)) (pa_cons (pe_ix ix_tup (pe_ix ix_list (pv 7) pe_int (fun _ _ => rfl)) pe_int (fun _ _ => rfl)) pa_nil)))))) pss_nil)
      (pss_cons (ps_set (i := 9) sc_Lrows.nd rfl (Or.inl rfl) (pe_op op_catA (pv 6) (pe_tup (pa_cons (pe_op op_add pe_int (pe_op op_mod (pe_op op_add (pe_op op_fdiv (pv 2) pe_int) (pe_op op_mul pe_int (pe_callB call_len rfl (z_len T) PySem.boot_len (pa_cons (pv 7) pa_nil)))) pe_int)) pa_nil))))
      (pss_one (ps_expr (pe_bm PySem.F.plainAttrs_list PySem.F.slot_list_append PySem.F.type_list_append mt_append (pv 3) (pa_cons (pe_tup (pa_cons (pv 9) (pa_cons (pv 8) (pa_cons (pe_ix ix_list (pe_lst (pa_cons pe_str (pa_cons pe_str pa_nil))) (pe_op op_mod (pe_op op_fdiv (pv 5) pe_int) pe_int) (fun _ _ => rfl)) pa_nil)))) pa_nil)))))))))))))
      (pss_one (ps_ret (pv 3)))))), fun B0 H0 => ?_⟩
  obtain ⟨c, hc⟩ : ∃ c, c = ns.getD 5 0 := ⟨_, rfl⟩
  obtain ⟨hb1, hb8, hbe⟩ := bound_le hk c
  refine ws_seq (ws_asg (s := dI c) ((ev_call (ea_cons (ev_var rfl) (ea_cons (ev_int (i := ((5 : Nat) : Int))) ea_nil)) ⟨ns, 5, rfl, rfl⟩).is (by rw [hc])) ?_)
  refine ws_seq (ws_asg (ev_lst (ds := []) (κ := .pl) ea_nil (Nat.zero_le _)) ?_)
  have hG : rowsG ks ns = rowsR ks ns (boundN ks c) := by unfold rowsG; rw [← hc]
  rw [hG]
  have hix : atI (iL boundL) ((ks.length : Int) - 1) = some (PyData.int (boundL.getD (ks.length - 1) 1)) := by
    have : ∀ i < 4, (iL boundL)[i]? = some (PyData.int (boundL.getD i 1)) := fun i hi => by
      have h2 : ∀ i < 4, boundL.getD i 0 = boundL.getD i 1 := by decide
      rw [← h2 i hi]
      exact i_get (l := boundL) hi
    have e : ((ks.length : Int) - 1).toNat = ks.length - 1 := by omega
    refine atI_in (by omega) ?_
    rw [e]
    exact this _ (by omega)
  have hbp : 0 < boundL.getD (ks.length - 1) 1 := by
    have : ∀ i < 4, 0 < boundL.getD i 1 := by decide
    exact this _ (by omega)
  refine ws_seq (ws_forR (n := boundN ks c) (ea_cons ((ev_add ev_int (ev_mod (ev_var rfl) (ev_ixL (κ := .pl) (ds := iL boundL) (ev_fz (ev_lst (κ := .pl) (ds := iL boundL) (ea_cons ev_int (ea_cons ev_int (ea_cons ev_int (ea_cons ev_int ea_nil)))) (by decide))) (ev_sub ((ev_lenL (ds := ksL ks) (ev_var rfl)).is (by rw [ksL_len])) ev_int) hix) hbp)).is (by rw [hbe])) ea_nil) (by omega) (fun i Γ' => ∃ a b e f g i2 i3, Γ' = [some (.ab (Scr K ns)), some (dL (ksL ks)), some (dI c), some (.own (rwL (rowsR ks ns i))), a, b, e, f, g, i2, i3]) ⟨none, none, none, none, none, none, none, rfl⟩ ?_ ?_)
  · rintro k Γ' hk2 ⟨x1, x2, x3, x4, x5, x6, x7, rfl⟩
    have hRI := rowsR_ok hk ns k (by omega)
    have hRl := rowsR_len ks ns k
    obtain ⟨R, hR⟩ : ∃ R, R = rowsR ks ns k := ⟨_, rfl⟩
    have hnx : rowsR ks ns (k + 1) = R ++ [rowR ks c (ns.getD (6 + k) 0) R] := by rw [rowsR, ← hR, ← hc]
    rw [hnx]
    rw [← hR] at hRI hRl ⊢
    obtain ⟨more, hmore⟩ : ∃ m, m = ns.getD (6 + k) 0 := ⟨_, rfl⟩
    rw [← hmore]
    refine ws_seq (ws_asg (s := dI more) ((ev_call (ea_cons (ev_var rfl) (ea_cons ((ev_add ev_int (ev_var rfl)).is (s' := dI ((6 + k : Nat) : Int)) (by congr 2)) ea_nil)) ⟨ns, 6 + k, rfl, rfl⟩).is (by rw [hmore])) ?_)
    refine ws_seq (ws_asg (s := .d (encN [])) (ev_tup (κ := .pl) (ds := []) ea_nil (Nat.zero_le _)) ?_)
    obtain ⟨at_, hat⟩ : ∃ a, a = atR R more := ⟨_, rfl⟩
    refine ws_seq (ws_mono (E := { nx := fun Γ' => Γ' = [some (.ab (Scr K ns)), some (dL (ksL ks)), some (dI c), some (.own (rwL R)), some (dI (k : Int)), some (dI more), some (.d (encN at_)), x4, x5, x6, x7], rt := fun _ => False }) (ws_if (b := decide (R ≠ []) && decide (more % 2 = 1)) (et_and (et_thaw (i := 3) (κ := .pl) rfl ((et_test (ev_neD (κ := .pl) (κ' := .pl) (x := .list (rwL R)) (y := .list []) (ev_var rfl) (ev_fz (ev_lst (ds := []) (κ := .pl) ea_nil (by decide))) ((gd_rows (m := 4) fun r hr => ⟨hRI.ok r hr, hRI.dep r hr⟩).shaped (by decide)) ((gd_lst (n := 0) (l := []) fun _ h => by cases h).shaped (by decide)))).is (by rw [eqv_nil]; unfold rwL; simp))) fun _ => et_test (ev_eqI (ev_mod (ev_var rfl) ev_int (by decide)) ev_int)) (fun hb => ?_) fun hb => ws_next ?_) ?_ (fun _ h => h.elim) (fun _ h => h.elim) fun _ h => h.elim)
    · rw [Bool.and_eq_true, decide_eq_true_eq, decide_eq_true_eq] at hb
      have hp := List.length_pos_iff.mpr hb.1
      have hm := md_lt (a := more / 2) (n := (R.length : Int)) (by omega)
      have hn : (more / 2 % (R.length : Int)).toNat < R.length := by omega
      have e : atR R more = (R.getD (more / 2 % (R.length : Int)).toNat default).num.take 3 := if_pos hb
      rw [hat, e]
      obtain ⟨r, hr2⟩ : ∃ r, r = R.getD (more / 2 % (R.length : Int)).toNat default := ⟨_, rfl⟩
      rw [← hr2]
      have hget : atI (rwL R) (more / 2 % (R.length : Int)) = some r.enc := by
        refine atI_in hm.1 ?_
        unfold rwL
        rw [List.getElem?_map, List.getElem?_eq_getElem hn, hr2, List.getD_eq_getElem?_getD, List.getElem?_eq_getElem hn]
        rfl
      refine ws_asg (ev_thaw (i := 3) (κ := .pl) (κ' := .pl) rfl ((ev_slT (ds := iL r.num) (row_num (ev_ixL (κ := .pl) (ds := rwL R) (ev_var rfl) (ev_mod (ev_fdiv (ev_var rfl) ev_int ⟨by decide, by decide⟩) ((ev_lenL (ds := rwL R) (ev_var rfl)).is (by unfold rwL; rw [List.length_map])) (by omega)) hget)) eo_none (eo_some (ev_int (i := ((3 : Nat) : Int))))).is (by rw [cut_to, iL_take]; rfl)) (noL_N _)) rfl
    · have e : atR R more = [] := by
        unfold atR
        rw [if_neg]
        intro h2
        rw [Bool.and_eq_false_iff, decide_eq_false_iff_not, decide_eq_false_iff_not] at hb
        rcases hb with h | h
        · exact h h2.1
        · exact h h2.2
      rw [hat, e]
      rfl
    rintro Γ' rfl
    obtain ⟨el, hel⟩ : ∃ el, el = sibs R at_ := ⟨_, rfl⟩
    refine ws_seq (ws_asg (s := dL (rwL el)) (ev_fz ((ev_thawO (i := 3) (κ := .pl) (κ' := .pl) (ys := rwL el) rfl ((ev_lcL (κ := .pl) (κ' := .pl) (ds := rwL R) (fun d => decide ((rowNum d).dropLast = at_)) id (ev_var rfl) (List.mem_cons_self ..) (by unfold rwL; rw [List.length_map]; omega) (fun d hd => ?_) (fun d hd _ => ev_var rfl)).is (by rw [sibs_lc, hel])) (noLA_rows _)))) ?_)
    · obtain ⟨r, _, rfl⟩ := List.mem_map.mp hd
      rw [rowNum_enc]
      exact (et_test (ev_eqD (κ := .pl) (κ' := .pl) (ev_dropLast (row_num (ev_var rfl))) (ev_var rfl) ((gd_N _).shaped (by decide)) ((gd_N _).shaped (by decide)))).is (eqv_N _ _)
    have hell : (rwL el).length = el.length := by unfold rwL; rw [List.length_map]
    refine ws_seq (ws_asg (s := .d (noteM ks (2 - ks.length / 4) (more * 16807 % 1000003)).enc) (ev_call (ea_cons (ev_mod (ev_mul (ev_var rfl) ev_int (.inr ⟨by decide, by decide⟩)) ev_int (by decide)) (ea_cons (ev_var rfl) (ea_cons ((ev_sub ev_int (ev_fdiv ((ev_lenL (ds := ksL ks) (ev_var rfl)).is (by rw [ksL_len])) ev_int ⟨by decide, by decide⟩)).is (s' := dI (((2 - ks.length / 4 : Nat) : Int) + 1)) (by congr 2; omega)) ea_nil))) ⟨2 - ks.length / 4, by omega, ks, _, rfl, hkp, rfl⟩) ?_)
    obtain ⟨n1, hn1⟩ : ∃ n1, n1 = if more / 16 % 4 = 1 then Nt.any else noteM ks (2 - ks.length / 4) (more * 16807 % 1000003) := ⟨_, rfl⟩
    refine ws_seq (ws_mono (E := { nx := fun Γ' => Γ' = [some (.ab (Scr K ns)), some (dL (ksL ks)), some (dI c), some (.own (rwL R)), some (dI (k : Int)), some (dI more), some (.d (encN at_)), some (dL (rwL el)), some (.d n1.enc), x6, x7], rt := fun _ => False }) (ws_if (b := decide (more / 16 % 4 = 1)) (et_test (ev_eqI (ev_mod (ev_fdiv (ev_var rfl) ev_int ⟨by decide, by decide⟩) ev_int (by decide)) ev_int)) (fun hb => ?_) fun hb => ws_next ?_) ?_ (fun _ h => h.elim) (fun _ h => h.elim) fun _ h => h.elim)
    · rw [hn1, if_pos (of_decide_eq_true hb)]
      exact ws_asg (ev_tup (κ := .pl) (ds := [.str "any"]) (ea_cons ev_str ea_nil) (by simp)) rfl
    · rw [hn1, if_neg (of_decide_eq_false hb)]
      rfl
    rintro Γ' rfl
    obtain ⟨n2, hn2⟩ : ∃ n2, n2 = noteR ks more el := ⟨_, rfl⟩
    refine ws_seq (ws_mono (E := { nx := fun Γ' => Γ' = [some (.ab (Scr K ns)), some (dL (ksL ks)), some (dI c), some (.own (rwL R)), some (dI (k : Int)), some (dI more), some (.d (encN at_)), some (dL (rwL el)), some (.d n2.enc), x6, x7], rt := fun _ => False }) (ws_if (b := decide (1 < more / 16 % 4) && decide (el.length = 1)) (et_and (et_test (ev_gt (ev_mod (ev_fdiv (ev_var rfl) ev_int ⟨by decide, by decide⟩) ev_int (by decide)) ev_int)) fun _ => (et_test (ev_eqI (ev_lenL (ds := rwL el) (ev_var rfl)) ev_int)).is (by rw [hell]; exact decide_eq_decide.mpr ⟨fun h => by omega, fun h => by omega⟩)) (fun hb => ?_) fun hb => ws_next ?_) ?_ (fun _ h => h.elim) (fun _ h => h.elim) fun _ h => h.elim)
    · rw [Bool.and_eq_true, decide_eq_true_eq, decide_eq_true_eq] at hb
      have e : noteR ks more el = .but .any (el.getD 0 default).note := if_pos hb
      have hget : (rwL el)[0]? = some (el.getD 0 default).enc := by
        have h0 : 0 < el.length := by omega
        unfold rwL
        rw [List.getElem?_map, List.getElem?_eq_getElem h0, List.getD_eq_getElem?_getD, List.getElem?_eq_getElem h0]
        rfl
      rw [hn2, e]
      exact ws_asg (ev_tup (κ := .pl) (ds := [.str "but", .tuple [.str "any"], (el.getD 0 default).note.enc]) (ea_cons ev_str (ea_cons (ev_tup (κ := .pl) (ds := [.str "any"]) (ea_cons ev_str ea_nil) (by simp)) (ea_cons (row_note (ev_ixL (κ := .pl) (ds := rwL el) (ev_var rfl) ev_int (atI_nat (k := 0) hget))) ea_nil))) (by simp)) rfl
    · have e : noteR ks more el = n1 := by
        unfold noteR
        rw [if_neg, hn1]
        intro h2
        rw [Bool.and_eq_false_iff, decide_eq_false_iff_not, decide_eq_false_iff_not] at hb
        rcases hb with h | h
        · exact h h2.1
        · exact h h2.2
      rw [hn2, e]
    rintro Γ' rfl
    have hatl : at_.length ≤ 3 := by
      rw [hat]
      rcases atR_ok hRI more with h | h
      · rw [h]; decide
      · exact h.2
    have hell8 : el.length ≤ 8 := by
      rw [hel]
      exact Nat.le_trans (List.length_filter_le _ _) (by omega)
    refine ws_seq (ws_asg (s := .d (encN (numR c at_ el.length))) ((ev_catT (a := iL at_) (b := [.int (1 + (c / 8 + 37 * (el.length : Int)) % 99)]) (ev_var rfl) (ev_tup (κ := .pl) (ds := [.int (1 + (c / 8 + 37 * (el.length : Int)) % 99)]) (ea_cons (ev_add ev_int (ev_mod (ev_add (ev_fdiv (ev_var rfl) ev_int ⟨by decide, by decide⟩) (ev_mul ev_int ((ev_lenL (ds := rwL el) (ev_var rfl)).is (by rw [hell])) (.inl ⟨by decide, by decide⟩))) ev_int (by decide))) ea_nil) (by simp)) (by rw [iL_len]; simp; omega)).is (by unfold encN numR iL; rw [List.map_append]; rfl)) ?_)
    have h2 := md_lt (a := more / 64) (n := 2) (by decide)
    have hrule : atI [PyData.str "one", .str "near"] (more / 64 % 2) = some (.str (ruleS (decide (more / 64 % 2 = 0)))) := by
      have : more / 64 % 2 = 0 ∨ more / 64 % 2 = 1 := by omega
      rcases this with h | h
      · rw [h]; rfl
      · rw [h]; rfl
    refine ws_app (κ := .pl) (d := (rowR ks c more R).enc) rfl (ev_tup (κ := .pl) (ds := [encN (numR c at_ el.length), n2.enc, .str (ruleS (decide (more / 64 % 2 = 0)))]) (ea_cons (ev_var rfl) (ea_cons (ev_var rfl) (ea_cons (ev_ixL (κ := .pl) (ds := [.str "one", .str "near"]) (ev_fz (ev_lst (κ := .pl) (ds := [.str "one", .str "near"]) (ea_cons ev_str (ea_cons ev_str ea_nil)) (by simp))) (ev_mod (ev_fdiv (ev_var rfl) ev_int ⟨by decide, by decide⟩) ev_int (by decide)) hrule) ea_nil))) (by simp) |>.is ?_) (by unfold rwL; rw [List.length_map]; omega) ⟨some (dI (k : Int)), some (dI more), some (.d (encN at_)), some (dL (rwL el)), some (.d n2.enc), some (.d (encN (numR c at_ el.length))), x7, ?_⟩
    · rw [hn2, hel, hat]; rfl
    · unfold rwL
      rw [List.map_append]
      rfl
  · rintro Γ' ⟨x1, x2, x3, x4, x5, x6, x7, rfl⟩
    exact ws_retOwn rfl rfl
end TG
set_option Elab.async false
set_option linter.all false
set_option maxRecDepth 100000
set_option maxHeartbeats 4000000
/-! W29: the law's rows turned, mended. -/
namespace TG
open PySem PySem.Spec PyProof.Rows L2
variable {P : Program} {w : World} {K : KF} {mg : Str → Option Value} {base : Heap}
theorem cut_from {ds : List PyData} {n : Nat} : cutD ds (some (n : Int)) none = ds.drop n := by
  unfold cutD
  rw [HT.sIx_none, HT.sIx_nat]
  by_cases h : n ≤ ds.length
  · rw [Nat.min_eq_left h, List.take_of_length_le (by rw [List.length_drop]; exact Nat.le_refl _)]
  · rw [Nat.min_eq_right (by omega), List.drop_of_length_le (by omega), List.drop_of_length_le (by omega)]
    simp
def turnR (rows : List Rw) (cell : Int) : List Rw := let i := (cell % (rows.length : Int)).toNat; if cell / 8 % 2 = 1 then (rows.drop i ++ rows.take i).reverse else rows.drop i ++ rows.take i
theorem turn_perm (rows : List Rw) (cell : Int) : (turnR rows cell).Perm rows := by
  have h : (rows.drop (cell % (rows.length : Int)).toNat ++ rows.take (cell % (rows.length : Int)).toNat).Perm rows := by
    have := List.perm_append_comm (l₁ := rows.drop (cell % (rows.length : Int)).toNat) (l₂ := rows.take (cell % (rows.length : Int)).toNat)
    rw [List.take_append_drop] at this
    exact this
  unfold turnR
  dsimp only
  split
  · exact (List.reverse_perm _).trans h
  · exact h
theorem rwL_app (a b : List Rw) : rwL (a ++ b) = rwL a ++ rwL b := by unfold rwL; rw [List.map_append]
theorem rwL_len (a : List Rw) : (rwL a).length = a.length := by unfold rwL; rw [List.length_map]
theorem ok_Lturned (T : Txt K mg) : FnOk P w K mg base CX0 1 765 (fdOf K 765) ["_law_rows_here", "_law_cell"] (spD (fun ss s => ∃ (rows : List Rw) (cell : Int), ss = [dL (rwL rows), dI cell] ∧ 1 ≤ rows.length ∧ rows.length ≤ 100 ∧ s = .own (rwL (turnR rows cell))) noX) := by
  refine Fun.okD (f_Lturned T) sc_Lturned (fun ss s ⟨_, _, h, _⟩ => by rw [h]; rfl) fun cdv A outer h H E hr ss s ⟨rows, cell, hs, h1, h100, hv⟩ => ?_
  subst hs hv
  refine ⟨_, (pss_cons (ps_set (i := 2) sc_Lturned.nd rfl (Or.inl rfl) (pe_op op_mod (pv 1) (pe_callB call_len rfl (z_len T) PySem.boot_len (pa_cons (pv 0) pa_nil))))
      (pss_cons (ps_set (i := 3) sc_Lturned.nd rfl (Or.inl rfl) (pe_op op_cat (pe_slice sl_list (pv 0) (po_some (pv 2)) po_none) (pe_slice sl_list (pv 0) po_none (po_some (pv 2)))))
      (pss_cons (ps_if (pt_cmpR op_eq (pe_op op_mod (pe_op op_fdiv (pv 1) pe_int) pe_int) pe_int (nomark _)) (pss_one (ps_expr (pe_bm0 PySem.F.plainAttrs_list PySem.F.slot_list_reverse PySem.F.type_list_reverse mt_reverse (pv 3)))) pss_nil)
      (pss_one (ps_ret (pv 3)))))), fun B0 H0 => ?_⟩
  have hm := md_lt (a := cell) (n := (rows.length : Int)) (by omega)
  obtain ⟨i, hi⟩ : ∃ i : Nat, cell % (rows.length : Int) = (i : Int) := ⟨(cell % (rows.length : Int)).toNat, by omega⟩
  have hi2 : (cell % (rows.length : Int)).toNat = i := by omega
  refine ws_seq (ws_asg (s := dI (i : Int)) ((ev_mod (ev_var rfl) ((ev_lenL (ds := rwL rows) (ev_var rfl)).is (by rw [rwL_len])) (by omega)).is (by rw [hi])) ?_)
  refine ws_seq (ws_asg (s := .own (rwL (rows.drop i ++ rows.take i))) ((ev_catL (a := (rwL rows).drop i) (b := (rwL rows).take i) (ev_fz ((ev_slL (κ := .pl) (ds := rwL rows) (ev_var rfl) (eo_some (ev_var rfl)) eo_none).is (by rw [cut_from]))) (ev_fz ((ev_slL (κ := .pl) (ds := rwL rows) (ev_var rfl) eo_none (eo_some (ev_var rfl))).is (by rw [cut_to]))) (by rw [List.length_drop, List.length_take, rwL_len]; omega)).is (by rw [rwL_app]; unfold rwL; rw [List.map_drop, List.map_take])) ?_)
  refine ws_seq (ws_mono (E := { nx := fun Γ' => Γ' = [some (dL (rwL rows)), some (dI cell), some (dI (i : Int)), some (.own (rwL (turnR rows cell)))], rt := fun _ => False }) (ws_if (b := decide (cell / 8 % 2 = 1)) (et_test (ev_eqI (ev_mod (ev_fdiv (ev_var rfl) ev_int ⟨by decide, by decide⟩) ev_int (by decide)) ev_int)) (fun hb => ?_) fun hb => ws_next ?_) ?_ (fun _ h => h.elim) (fun _ h => h.elim) fun _ h => h.elim)
  · have e : turnR rows cell = (rows.drop i ++ rows.take i).reverse := by unfold turnR; dsimp only; rw [if_pos (of_decide_eq_true hb), hi2]
    rw [e]
    refine ws_rev (i := 3) (xs := rwL (rows.drop i ++ rows.take i)) rfl ?_
    unfold rwL
    rw [List.map_reverse]
    rfl
  · have e : turnR rows cell = rows.drop i ++ rows.take i := by unfold turnR; dsimp only; rw [if_neg (of_decide_eq_false hb), hi2]
    rw [e]
    rfl
  · rintro Γ' rfl
    exact ws_retOwn rfl rfl
def men1 (way : Int) (el : List Rw) (r : Rw) : Nt := if way = 1 ∧ (el.getD 0 default).num = r.num then .any else r.note
def men2 (way : Int) (el : List Rw) (r : Rw) : Nt :=
  if way = 2 ∧ el.length = 1 then .any else if way = 2 ∧ (el.getD 1 default).num = r.num then .but .any (el.getD 0 default).note else if way = 2 ∧ (el.getD 0 default).num ≠ r.num then .but (men1 way el r) (men1 way el r) else men1 way el r
def mendRw (way : Int) (rows : List Rw) (r : Rw) : Rw := ⟨r.num, men2 way (sibs rows r.num.dropLast) r, decide (way = 2)⟩
def mendR (way : Int) (rows : List Rw) : List Rw := rows.map (mendRw way rows)
theorem sibs_pos {rows : List Rw} {r : Rw} (h : r ∈ rows) : 1 ≤ (sibs rows r.num.dropLast).length := by
  have : r ∈ sibs rows r.num.dropLast := List.mem_filter.mpr ⟨h, decide_eq_true rfl⟩
  exact List.length_pos_of_mem this
theorem rw_at {l : List Rw} {i : Nat} (h : i < l.length) : (rwL l)[i]? = some (l.getD i default).enc := by
  unfold rwL
  rw [List.getElem?_map, List.getElem?_eq_getElem h, List.getD_eq_getElem?_getD, List.getElem?_eq_getElem h]
  rfl
theorem ok_Lmended (T : Txt K mg) : FnOk P w K mg base CX0 1 782 (fdOf K 782) ["_law_rows_here", "_law_way"] (spD (fun ss s => ∃ (rows : List Rw) (way : Int), ss = [dL (rwL rows), dI way] ∧ rows.length ≤ 100 ∧ (way = 1 ∨ way = 2) ∧ s = .own (rwL (mendR way rows))) noX) := by
  refine Fun.okD (f_Lmended T) sc_Lmended (fun ss s ⟨_, _, h, _⟩ => by rw [h]; rfl) fun cdv A outer h H E hr ss s ⟨rows, way, hs, h100, hw, hv⟩ => ?_
  have hu65 := hu65_of hr
  have hu64 : A.units + 3 + 64 < cLine := hr.units
  subst hs hv
  refine ⟨_, (pss_cons (ps_set (i := 2) sc_Lmended.nd rfl (Or.inl rfl) (pe_lst pa_nil))
      (pss_cons (ps_for PassesOwn.never rfl (pi_range1 rfl (z_range T) (pa_cons (pe_callB call_len rfl (z_len T) PySem.boot_len (pa_cons (pv 0) pa_nil)) pa_nil)) (pg_name (i := 3) sc_Lmended.nd rfl (Or.inl rfl))
      (pss_cons (ps_asg (pe_ix ix_list (pv 0) (pv 3) (fun _ _ => rfl)) (pg_tup rfl (pgs_cons (pg_name (i := 4) sc_Lmended.nd rfl (Or.inr rfl)) (pgs_cons (pg_name (i := 5) sc_Lmended.nd rfl (Or.inl rfl)) (pgs_cons (pg_name (i := 6) sc_Lmended.nd rfl (Or.inl rfl)) pgs_nil)))))
      (pss_cons (ps_setLc (i := 7) (own := [("_law_row", 8)]) rfl sc_Lmended.nd rfl rfl (sw_true rfl rfl rfl (by decide +kernel)) (pi_list (pv 0)) (blkOk_by (own := [("_law_row", 8)]) (N := N_Lmended) (sc := defScope s_Lmended) (by decide +kernel)) (fun _ _ _ _ _ => pg_name (i := 8) sc_Lmended.nd rfl (Or.inl rfl)) (fun _ _ _ _ _ => (pts_one (pt_cmpR (r := rEqD K) (op_eqD hu64) (pe_slice (r := rSlA K) sl_tupA (pe_ix (r := rIxT K) ix_tup (pv 8) pe_int (fun _ _ => rfl)) po_none (po_some (pe_un un_neg pe_int))) (pe_slice (r := rSlA K) sl_tupA (pv 4) po_none (po_some (pe_un un_neg pe_int))) (nomark _)))) (fun _ _ _ _ _ => (pv 8)))
      (pss_cons (ps_if (PW.pt (pw_and (pt_cmpR op_eq (pv 1) pe_int (nomark _)) (pw_and1 (pt_cmpR (op_eqD hu64) (pe_ix ix_tup (pe_ix ix_list (pv 7) pe_int (fun _ _ => rfl)) pe_int (fun _ _ => rfl)) (pv 4) (nomark _))))) (pss_one (ps_set (i := 5) sc_Lmended.nd rfl (Or.inl rfl) (pe_tup (pa_cons pe_str pa_nil)))) pss_nil)
      (pss_cons (ps_if (PW.pt (pw_and (pt_cmpR op_eq (pv 1) pe_int (nomark _)) (pw_and1 (pt_cmpR op_eq (pe_callB call_len rfl (z_len T) PySem.boot_len (pa_cons (pv 7) pa_nil)) pe_int (nomark _))))) (pss_one (ps_set (i := 5) sc_Lmended.nd rfl (Or.inl rfl) (pe_tup (pa_cons pe_str pa_nil)))) (pss_one (ps_if (PW.pt (pw_and (pt_cmpR op_eq (pv 1) pe_int (nomark _)) (pw_and1 (pt_cmpR (op_eqD hu64) (pe_ix ix_tup (pe_ix ix_list (pv 7) pe_int (fun _ _ => rfl)) pe_int (fun _ _ => rfl)) (pv 4) (nomark _))))) (pss_one (ps_set (i := 5) sc_Lmended.nd rfl (Or.inl rfl) (pe_tup (pa_cons pe_str (pa_cons (pe_tup (pa_cons pe_str pa_nil)) (pa_cons (pe_ix ix_tup (pe_ix ix_list (pv 7) pe_int (fun _ _ => rfl)) pe_int (fun _ _ => rfl)) pa_nil)))))) (pss_one (ps_if (PW.pt (pw_and (pt_cmpR op_eq (pv 1) pe_int (nomark _)) (pw_and1 (pt_cmpR (op_neD hu64) (pe_ix ix_tup (pe_ix ix_list (pv 7) pe_int (fun _ _ => rfl)) pe_int (fun _ _ => rfl)) (pv 4) (nomark _))))) (pss_one (ps_set (i := 5) sc_Lmended.nd rfl (Or.inl rfl) (pe_tup (pa_cons pe_str (pa_cons (pv 5) (pa_cons (pv 5) pa_nil)))))) pss_nil)))))
      (pss_one (ps_expr (pe_bm PySem.F.plainAttrs_list PySem.F.slot_list_append PySem.F.type_list_append mt_append (pv 2) (pa_cons (pe_tup (pa_cons (pv 4) (pa_cons (pv 5) (pa_cons (pe_ix ix_list (pe_lst (pa_cons pe_str (pa_cons pe_str pa_nil))) (pe_op op_sub (pv 1) pe_int) (fun _ _ => rfl)) pa_nil)))) pa_nil)))))))))
      (pss_one (ps_ret (pv 2))))), fun B0 H0 => ?_⟩
  refine ws_seq (ws_asg (ev_lst (ds := []) (κ := .pl) ea_nil (Nat.zero_le _)) ?_)
  refine ws_seq (ws_forR (n := rows.length) (ea_cons ((ev_lenL (ds := rwL rows) (ev_var rfl)).is (by rw [rwL_len])) ea_nil) (by omega) (fun i Γ' => ∃ a b e f g i2, Γ' = [some (dL (rwL rows)), some (dI way), some (.own (rwL ((mendR way rows).take i))), a, b, e, f, g, i2]) ⟨none, none, none, none, none, none, rfl⟩ ?_ ?_)
  · rintro k Γ' hk ⟨x1, x2, x3, x4, x5, x6, rfl⟩
    obtain ⟨r, hr2⟩ : ∃ r, r = rows.getD k default := ⟨_, rfl⟩
    have hget := rw_at hk
    rw [← hr2] at hget
    have hrk : rows[k]? = some r := by rw [hr2, List.getD_eq_getElem?_getD, List.getElem?_eq_getElem hk]; rfl
    have hrm : r ∈ rows := List.mem_of_getElem? hrk
    obtain ⟨el, hel⟩ : ∃ el, el = sibs rows r.num.dropLast := ⟨_, rfl⟩
    have hell : 1 ≤ el.length := by rw [hel]; exact sibs_pos hrm
    have hell2 : el.length ≤ 100 := by rw [hel]; exact Nat.le_trans (List.length_filter_le _ _) h100
    refine ws_seq (ws_asgT (f := fun Γ => ((Γ.set 4 (some (.d (encN r.num)))).set 5 (some (.d r.note.enc))).set 6 (some (.d (.str (ruleS r.one))))) (ev_ixL (κ := .pl) (ds := rwL rows) (d := r.enc) (ev_var rfl) (ev_var rfl) (atI_nat hget)) tg_tup3 ?_)
    refine ws_seq (ws_asg (s := dL (rwL el)) (ev_fz ((ev_lcL (κ := .pl) (κ' := .pl) (ds := rwL rows) (fun d => decide ((rowNum d).dropLast = r.num.dropLast)) id (ev_var rfl) (List.mem_cons_self ..) (by rw [rwL_len]; omega) (fun d hd => ?_) (fun d hd _ => ev_var rfl)).is (by rw [sibs_lc, hel]))) ?_)
    · obtain ⟨q, _, rfl⟩ := List.mem_map.mp hd
      rw [rowNum_enc]
      exact (et_test (ev_eqD (κ := .pl) (κ' := .pl) (ev_dropLast (row_num (ev_var rfl))) (ev_dropLast (ev_var rfl)) ((gd_N _).shaped (by decide)) ((gd_N _).shaped (by decide)))).is (eqv_N _ _)
    have e0 : ∀ (nt : Nt), EvS (tOp (rIxT K) (tOp (rIxL K) (tVar 7) (tC (.int 0))) (tC (.int 0))) [some (dL (rwL rows)), some (dI way), some (.own (rwL ((mendR way rows).take k))), some (dI (k : Int)), some (.d (encN r.num)), some (.d nt.enc), some (.d (.str (ruleS r.one))), some (dL (rwL el)), x6] (.d (encN (el.getD 0 default).num)) := fun nt => row_num (ev_ixL (κ := .pl) (ds := rwL el) (ev_var rfl) ev_int (atI_nat (k := 0) (rw_at hell)))
    have e0n : ∀ (nt : Nt), EvS (tOp (rIxT K) (tOp (rIxL K) (tVar 7) (tC (.int 0))) (tC (.int 1))) [some (dL (rwL rows)), some (dI way), some (.own (rwL ((mendR way rows).take k))), some (dI (k : Int)), some (.d (encN r.num)), some (.d nt.enc), some (.d (.str (ruleS r.one))), some (dL (rwL el)), x6] (.d (el.getD 0 default).note.enc) := fun nt => row_note (ev_ixL (κ := .pl) (ds := rwL el) (ev_var rfl) ev_int (atI_nat (k := 0) (rw_at hell)))
    have sh : ∀ n : List Int, SeqAt.shaped (encN n) = true := fun n => (gd_N n).shaped (by decide)
    have any1 : EvS (tTup (tCons (tC (.str "any")) tNil)) [some (dL (rwL rows)), some (dI way), some (.own (rwL ((mendR way rows).take k))), some (dI (k : Int)), some (.d (encN r.num)), some (.d (men1 way el r).enc), some (.d (.str (ruleS r.one))), some (dL (rwL el)), x6] (.d Nt.any.enc) := ev_tup (κ := .pl) (ds := [.str "any"]) (ea_cons ev_str ea_nil) (by simp)
    refine ws_seq (ws_mono (E := { nx := fun Γ' => Γ' = [some (dL (rwL rows)), some (dI way), some (.own (rwL ((mendR way rows).take k))), some (dI (k : Int)), some (.d (encN r.num)), some (.d (men1 way el r).enc), some (.d (.str (ruleS r.one))), some (dL (rwL el)), x6], rt := fun _ => False }) (ws_if (b := decide (way = 1) && decide ((el.getD 0 default).num = r.num)) (et_and (et_test (ev_eqI (ev_var rfl) ev_int)) fun _ => (et_test (ev_eqD (κ := .pl) (κ' := .pl) (e0 r.note) (ev_var rfl) (sh _) (sh _))).is (eqv_N _ _)) (fun hb => ?_) fun hb => ws_next ?_) ?_ (fun _ h => h.elim) (fun _ h => h.elim) fun _ h => h.elim)
    · rw [Bool.and_eq_true, decide_eq_true_eq, decide_eq_true_eq] at hb
      have e : men1 way el r = .any := if_pos hb
      rw [e]
      exact ws_asg (ev_tup (κ := .pl) (ds := [.str "any"]) (ea_cons ev_str ea_nil) (by simp)) rfl
    · have e : men1 way el r = r.note := by
        unfold men1
        rw [if_neg]
        intro h2
        rw [Bool.and_eq_false_iff, decide_eq_false_iff_not, decide_eq_false_iff_not] at hb
        rcases hb with h | h
        · exact h h2.1
        · exact h h2.2
      rw [e]
      rfl
    rintro Γ' rfl
    have ng : ∀ {p q : Prop} [Decidable p] [Decidable q], (decide p && decide q) = false → ¬ (p ∧ q) := fun {p q} _ _ hb h2 => by
      rw [Bool.and_eq_false_iff, decide_eq_false_iff_not, decide_eq_false_iff_not] at hb
      rcases hb with h | h
      · exact h h2.1
      · exact h h2.2
    refine ws_seq (ws_mono (E := { nx := fun Γ' => Γ' = [some (dL (rwL rows)), some (dI way), some (.own (rwL ((mendR way rows).take k))), some (dI (k : Int)), some (.d (encN r.num)), some (.d (men2 way el r).enc), some (.d (.str (ruleS r.one))), some (dL (rwL el)), x6], rt := fun _ => False }) (ws_if (b := decide (way = 2) && decide (el.length = 1)) (et_and (et_test (ev_eqI (ev_var rfl) ev_int)) fun _ => (et_test (ev_eqI (ev_lenL (ds := rwL el) (ev_var rfl)) ev_int)).is (by rw [rwL_len]; exact decide_eq_decide.mpr ⟨fun h => by omega, fun h => by omega⟩)) (fun hb => ?_) fun hb => ?_) ?_ (fun _ h => h.elim) (fun _ h => h.elim) fun _ h => h.elim)
    · rw [Bool.and_eq_true, decide_eq_true_eq, decide_eq_true_eq] at hb
      have e : men2 way el r = .any := if_pos hb
      rw [e]
      exact ws_asg any1 rfl
    · have hb1 := ng hb
      refine ws_if (b := decide (way = 2) && decide ((el.getD 1 default).num = r.num)) (et_and (et_test (ev_eqI (ev_var rfl) ev_int)) fun h2 => (et_test (ev_eqD (κ := .pl) (κ' := .pl) (row_num (ev_ixL (κ := .pl) (ds := rwL el) (ev_var rfl) ev_int (atI_nat (k := 1) (rw_at ?_)))) (ev_var rfl) (sh _) (sh _))).is (eqv_N _ _)) (fun hb2 => ?_) fun hb2 => ?_
      · have h3 := of_decide_eq_true h2
        have : ¬ el.length = 1 := fun h => hb1 ⟨h3, h⟩
        omega
      · rw [Bool.and_eq_true, decide_eq_true_eq, decide_eq_true_eq] at hb2
        have e : men2 way el r = .but .any (el.getD 0 default).note := by unfold men2; rw [if_neg hb1, if_pos hb2]
        rw [e]
        exact ws_asg (ev_tup (κ := .pl) (ds := [.str "but", .tuple [.str "any"], (el.getD 0 default).note.enc]) (ea_cons ev_str (ea_cons any1 (ea_cons (e0n _) ea_nil))) (by simp)) rfl
      · have hb3 := ng hb2
        refine ws_if (b := decide (way = 2) && !decide ((el.getD 0 default).num = r.num)) (et_and (et_test (ev_eqI (ev_var rfl) ev_int)) fun _ => (et_test (ev_neD (κ := .pl) (κ' := .pl) (e0 _) (ev_var rfl) (sh _) (sh _))).is (by rw [show PyData.eqv (encN (el.getD 0 default).num) (encN r.num) = _ from eqv_N _ _])) (fun hb4 => ?_) fun hb4 => ws_next ?_
        · rw [Bool.and_eq_true, decide_eq_true_eq, Bool.not_eq_true', decide_eq_false_iff_not] at hb4
          have e : men2 way el r = .but (men1 way el r) (men1 way el r) := by unfold men2; rw [if_neg hb1, if_neg hb3, if_pos hb4]
          rw [e]
          exact ws_asg (ev_tup (κ := .pl) (ds := [.str "but", (men1 way el r).enc, (men1 way el r).enc]) (ea_cons ev_str (ea_cons (ev_var rfl) (ea_cons (ev_var rfl) ea_nil))) (by simp)) rfl
        · have e : men2 way el r = men1 way el r := by
            unfold men2
            rw [if_neg hb1, if_neg hb3, if_neg]
            intro h2
            rw [decide_eq_true h2.1, decide_eq_false h2.2] at hb4
            cases hb4
          rw [e]
    rintro Γ' rfl
    have hrule : atI [PyData.str "near", .str "one"] (way - 1) = some (.str (ruleS (decide (way = 2)))) := by
      rcases hw with h | h
      · rw [h]; rfl
      · rw [h]; rfl
    have hml : ((mendR way rows).take k).length ≤ 100 := by rw [List.length_take]; unfold mendR; rw [List.length_map]; omega
    refine ws_app (κ := .pl) (d := (mendRw way rows r).enc) rfl ((ev_tup (κ := .pl) (ds := [encN r.num, (men2 way el r).enc, .str (ruleS (decide (way = 2)))]) (ea_cons (ev_var rfl) (ea_cons (ev_var rfl) (ea_cons (ev_ixL (κ := .pl) (ds := [.str "near", .str "one"]) (ev_fz (ev_lst (κ := .pl) (ds := [.str "near", .str "one"]) (ea_cons ev_str (ea_cons ev_str ea_nil)) (by simp))) (ev_sub (ev_var rfl) ev_int) hrule) ea_nil))) (by simp)).is (by rw [hel]; rfl)) (by rw [rwL_len]; omega) ⟨some (dI (k : Int)), some (.d (encN r.num)), some (.d (men2 way el r).enc), some (.d (.str (ruleS r.one))), some (dL (rwL el)), x6, ?_⟩
    have hmk : (mendR way rows)[k]? = some (mendRw way rows r) := by unfold mendR; rw [List.getElem?_map, hrk]; rfl
    rw [List.take_add_one, hmk, rwL_app]
    rfl
  · rintro Γ' ⟨x1, x2, x3, x4, x5, x6, rfl⟩
    rw [List.take_of_length_le (by unfold mendR; rw [List.length_map]; exact Nat.le_refl _)]
    exact ws_retOwn rfl rfl
end TG
set_option Elab.async false
set_option linter.all false
set_option maxRecDepth 100000
set_option maxHeartbeats 4000000
/-! W30: the law's parts. -/
namespace TG
open PySem PySem.Spec PyProof.Rows L2
variable {P : Program} {w : World} {K : KF} {mg : Str → Option Value} {base : Heap}
theorem cut_mid {ds : List PyData} {a b : Nat} (h : a ≤ b) : cutD ds (some (a : Int)) (some (b : Int)) = (ds.drop a).take (b - a) := by
  unfold cutD
  rw [HT.sIx_nat, HT.sIx_nat]
  by_cases h1 : a ≤ ds.length
  · rw [Nat.min_eq_left h1]
    by_cases h2 : b ≤ ds.length
    · rw [Nat.min_eq_left h2]
    · rw [Nat.min_eq_right (by omega), List.take_of_length_le (by rw [List.length_drop]; exact Nat.le_refl _), List.take_of_length_le (by rw [List.length_drop]; omega)]
  · rw [Nat.min_eq_right (b := ds.length) (a := a) (by omega), List.drop_of_length_le (Nat.le_refl _), List.drop_of_length_le (i := a) (by omega)]
    simp
def cellsP (ns : List Int) : List Int := if (ns.drop 15).take 39 = [] then [ns.getD 14 0] else (ns.drop 15).take 39
def wayP (ns : List Int) : Int := ns.getD 14 0 / 7 % 4
def spotP (ks : List Knd) (ns : List Int) (c : Int) : Int := if wayP ns = 3 then ns.getD 14 0 / 28 % (ks.length : Int) else c * 48271 % 10007 % (ks.length : Int)
def wtP (ns : List Int) (c : Int) : Int := if wayP ns = 2 then 1 + c * 16807 % 10000000000000 else 1 + c / 5 % 4
def partP (ks : List Knd) (ns : List Int) (c : Int) : Prt := (ks.getD (spotP ks ns c).toNat ("", ""), wtP ns c)
def partsP (ks : List Knd) (ns : List Int) : List Prt := (cellsP ns).map (partP ks ns)
theorem cells_len (ns : List Int) : 1 ≤ (cellsP ns).length ∧ (cellsP ns).length ≤ 39 := by
  unfold cellsP
  split
  · exact ⟨Nat.le_refl _, by simp⟩
  · next h => exact ⟨List.length_pos_iff.mpr h, List.length_take_le _ _⟩
theorem spot_lt {ks : List Knd} (h : 1 ≤ ks.length) (ns : List Int) (c : Int) : 0 ≤ spotP ks ns c ∧ spotP ks ns c < ks.length := by
  unfold spotP
  split
  · exact md_lt (by omega)
  · exact md_lt (by omega)
theorem wt_rng (ns : List Int) (c : Int) : 1 ≤ wtP ns c ∧ wtP ns c ≤ 10000000000000 := by
  unfold wtP
  split <;> omega
theorem ok_Lparts (T : Txt K mg) : FnOk P w K mg base CX0 2 789 (fdOf K 789) ["_law_script", "_law_kinds_here"] (spD (fun ss s => ∃ (ns : List Int) (ks : List Knd), ss = [.ab (Scr K ns), dL (ksL ks)] ∧ 1 ≤ ks.length ∧ s = .own (pL (partsP ks ns))) noX) := by
  refine Fun.okD (f_Lparts T) sc_Lparts (fun ss s ⟨_, _, h, _⟩ => by rw [h]; rfl) fun cdv A outer h H E hr ss s ⟨ns, ks, hs, hk, hv⟩ => ?_
  have hu64 : A.units + 3 + 64 < cLine := hr.units
  subst hs hv
  refine ⟨_, (pss_cons (ps_set (i := 2) sc_Lparts.nd rfl (Or.inl rfl) (pe_slice sl_list (pv 0) (po_some pe_int) (po_some pe_int)))
      (pss_cons (ps_if (pt_cmpR (op_eqD hu64) (pv 2) (pe_lst pa_nil) (nomark _)) (pss_one (ps_set (i := 2) sc_Lparts.nd rfl (Or.inl rfl) (pe_lst (pa_cons (pe_call (ok_Lcellat T) (hr.mono (by decide)) rfl (g_Lcellat T) (f_Lcellat T).kp (b_Lcellat T) .nil pass0 (pa_cons (pv 0) (pa_cons pe_int pa_nil))) pa_nil)))) pss_nil)
      (pss_cons (ps_set (i := 3) sc_Lparts.nd rfl (Or.inl rfl) (pe_op op_mod (pe_op op_fdiv (pe_call (ok_Lcellat T) (hr.mono (by decide)) rfl (g_Lcellat T) (f_Lcellat T).kp (b_Lcellat T) .nil pass0 (pa_cons (pv 0) (pa_cons pe_int pa_nil))) pe_int) pe_int))
      (pss_cons (ps_set (i := 4) sc_Lparts.nd rfl (Or.inl rfl) (pe_lst pa_nil))
      (pss_cons (ps_for PassesOwn.never rfl (pi_list (pv 2)) (pg_name (i := 5) sc_Lparts.nd rfl (Or.inl rfl))
      (pss_cons (ps_set (i := 6) sc_Lparts.nd rfl (Or.inl rfl) (pe_op op_mod (pe_op op_mod (pe_op op_mul (pv 5) pe_int) pe_int) (pe_callB call_len rfl (z_len T) PySem.boot_len (pa_cons (pv 1) pa_nil))))
      (pss_cons (ps_set (i := 7) sc_Lparts.nd rfl (Or.inl rfl) (pe_op op_add pe_int (pe_op op_mod (pe_op op_fdiv (pv 5) pe_int) pe_int)))
      (pss_cons (ps_if (pt_cmpR op_eq (pv 3) pe_int (nomark _)) (pss_one (ps_set (i := 7) sc_Lparts.nd rfl (Or.inl rfl) (pe_op op_add pe_int (pe_op op_mod (pe_op op_mul (pv 5) pe_int) (pe_op op_pow pe_int pe_int))))) pss_nil)
      (pss_cons (ps_if (pt_cmpR op_eq (pv 3) pe_int (nomark _)) (pss_one (ps_set (i := 6) sc_Lparts.nd rfl (Or.inl rfl) (pe_op op_mod (pe_op op_fdiv (pe_call (ok_Lcellat T) (hr.mono (by decide)) rfl (g_Lcellat T) (f_Lcellat T).kp (b_Lcellat T) .nil pass0 (pa_cons (pv 0) (pa_cons pe_int pa_nil))) pe_int) (pe_callB call_len rfl (z_len T) PySem.boot_len (pa_cons (pv 1) pa_nil))))) pss_nil)
      (pss_one (ps_expr (pe_bm PySem.F.plainAttrs_list PySem.F.slot_list_append PySem.F.type_list_append mt_append (pv 4) (pa_cons (pe_tup (pa_cons (pe_ix ix_tup (pe_ix ix_list (pv 1) (pv 6) (fun _ _ => rfl)) pe_int (fun _ _ => rfl)) (pa_cons (pe_ix ix_tup (pe_ix ix_list (pv 1) (pv 6) (fun _ _ => rfl)) pe_int (fun _ _ => rfl)) (pa_cons (pv 7) pa_nil)))) pa_nil)))))))))
      (pss_one (ps_ret (pv 4)))))))), fun B0 H0 => ?_⟩
  have cell14 : ∀ (Γ : Cxt), Γ[0]? = some (some (.ab (Scr K ns))) → EvS (tCall (spD (fun ss s => ∃ (ns : List Int) (k : Nat), ss = [.ab (Scr K ns), dI (k : Int)] ∧ s = dI (ns.getD k 0)) noX) [] E0 (tCons (tVar 0) (tCons (tC (.int 14)) tNil))) Γ (dI (ns.getD 14 0)) := fun Γ h0 => ev_call (ea_cons (ev_var h0) (ea_cons (ev_int (i := ((14 : Nat) : Int))) ea_nil)) ⟨ns, 14, rfl, rfl⟩
  have hcl := cells_len ns
  have hsh : SeqAt.shaped (.list (iL ((ns.drop 15).take 39))) = true := (gd_lst (n := 0) gd_iL).shaped (by decide)
  refine ws_seq (ws_asg (s := dL (iL ((ns.drop 15).take 39))) (ev_fz ((ev_scrSl (ns := ns) (ev_var rfl) (eo_some (ev_int (i := ((15 : Nat) : Int)))) (eo_some (ev_int (i := ((54 : Nat) : Int))))).is (by rw [cut_mid (by decide)]; unfold iL; rw [← List.map_drop, ← List.map_take]))) ?_)
  refine ws_seq (ws_mono (E := { nx := fun Γ' => ∃ a b c d e, Γ' = [some (.ab (Scr K ns)), some (dL (ksL ks)), some (dL (iL (cellsP ns))), a, b, c, d, e], rt := fun _ => False }) (ws_if (b := decide ((ns.drop 15).take 39 = [])) ((et_test (ev_eqD (κ := .pl) (κ' := .pl) (x := .list (iL ((ns.drop 15).take 39))) (y := .list []) (ev_var rfl) (ev_fz (ev_lst (ds := []) (κ := .pl) ea_nil (by decide))) hsh ((gd_lst (n := 0) (l := []) fun _ h => by cases h).shaped (by decide)))).is (by rw [eqv_nil]; unfold iL; simp only [List.map_eq_nil_iff])) (fun hb => ?_) fun hb => ws_next ?_) ?_ (fun _ h => h.elim) (fun _ h => h.elim) fun _ h => h.elim)
  · have e : cellsP ns = [ns.getD 14 0] := if_pos (of_decide_eq_true hb)
    rw [e]
    exact ws_asg (s := dL (iL [ns.getD 14 0])) (ev_fz (ev_lst (κ := .pl) (ds := iL [ns.getD 14 0]) (ea_cons (cell14 _ rfl) ea_nil) (by simp [iL]))) ⟨none, none, none, none, none, rfl⟩
  · have e : cellsP ns = (ns.drop 15).take 39 := if_neg (of_decide_eq_false hb)
    rw [e]
    exact ⟨none, none, none, none, none, rfl⟩
  rintro Γ' ⟨x1, x2, x3, x4, x5, rfl⟩
  refine ws_seq (ws_asg (s := dI (wayP ns)) (ev_mod (ev_fdiv (cell14 _ rfl) ev_int ⟨by decide, by decide⟩) ev_int (by decide)) ?_)
  refine ws_seq (ws_asg (ev_lst (ds := []) (κ := .pl) ea_nil (Nat.zero_le _)) ?_)
  refine ws_seq (ws_forL (κ := .pl) (ds := iL (cellsP ns)) (f := fun x Γ => Γ.set 5 (some (.d x .pl))) (ev_var rfl) (fun x _ => tg_name) (fun i Γ' => ∃ a b c, Γ' = [some (.ab (Scr K ns)), some (dL (ksL ks)), some (dL (iL (cellsP ns))), some (dI (wayP ns)), some (.own ((pL (partsP ks ns)).take i)), a, b, c]) ⟨x3, x4, x5, rfl⟩ ?_ ?_)
  · rintro i x Γ' hx ⟨a, b, e, rfl⟩
    obtain ⟨c, hc, rfl⟩ : ∃ c, (cellsP ns)[i]? = some c ∧ PyData.int c = x := by
      unfold iL at hx
      rw [List.getElem?_map] at hx
      cases q : (cellsP ns)[i]? with
      | none => rw [q] at hx; cases hx
      | some y => rw [q] at hx; exact ⟨y, rfl, Option.some.inj hx⟩
    have lenK : ∀ (Γ : Cxt), Γ[1]? = some (some (dL (ksL ks))) → EvS (tCB (rLen K) (tCons (tVar 1) tNil)) Γ (dI (ks.length : Int)) := fun Γ h1 => (ev_lenL (ds := ksL ks) (ev_var h1)).is (by rw [ksL_len])
    refine ws_seq (ws_asg (s := dI (c * 48271 % 10007 % (ks.length : Int))) (ev_mod (ev_mod (ev_mul (ev_var rfl) ev_int (.inr ⟨by decide, by decide⟩)) ev_int (by decide)) (lenK _ rfl) (by omega)) ?_)
    refine ws_seq (ws_asg (s := dI (1 + c / 5 % 4)) (ev_add ev_int (ev_mod (ev_fdiv (ev_var rfl) ev_int ⟨by decide, by decide⟩) ev_int (by decide))) ?_)
    refine ws_seq (ws_mono (E := { nx := fun Γ' => Γ' = [some (.ab (Scr K ns)), some (dL (ksL ks)), some (dL (iL (cellsP ns))), some (dI (wayP ns)), some (.own ((pL (partsP ks ns)).take i)), some (dI c), some (dI (c * 48271 % 10007 % (ks.length : Int))), some (dI (wtP ns c))], rt := fun _ => False }) (ws_if (b := decide (wayP ns = 2)) (et_test (ev_eqI (ev_var rfl) ev_int)) (fun hb => ?_) fun hb => ws_next ?_) ?_ (fun _ h => h.elim) (fun _ h => h.elim) fun _ h => h.elim)
    · have e : wtP ns c = 1 + c * 16807 % 10000000000000 := if_pos (of_decide_eq_true hb)
      rw [e]
      exact ws_asg (ev_add ev_int (ev_mod (ev_mul (ev_var rfl) ev_int (.inr ⟨by decide, by decide⟩)) ((ev_pow ev_int ev_int ⟨by decide, by decide, by decide⟩).is (s' := dI 10000000000000) (congrArg dI (by decide +kernel))) (by decide))) rfl
    · have e : wtP ns c = 1 + c / 5 % 4 := if_neg (of_decide_eq_false hb)
      rw [e]
      rfl
    rintro Γ' rfl
    refine ws_seq (ws_mono (E := { nx := fun Γ' => Γ' = [some (.ab (Scr K ns)), some (dL (ksL ks)), some (dL (iL (cellsP ns))), some (dI (wayP ns)), some (.own ((pL (partsP ks ns)).take i)), some (dI c), some (dI (spotP ks ns c)), some (dI (wtP ns c))], rt := fun _ => False }) (ws_if (b := decide (wayP ns = 3)) (et_test (ev_eqI (ev_var rfl) ev_int)) (fun hb => ?_) fun hb => ws_next ?_) ?_ (fun _ h => h.elim) (fun _ h => h.elim) fun _ h => h.elim)
    · have e : spotP ks ns c = ns.getD 14 0 / 28 % (ks.length : Int) := if_pos (of_decide_eq_true hb)
      rw [e]
      exact ws_asg (ev_mod (ev_fdiv (cell14 _ rfl) ev_int ⟨by decide, by decide⟩) (lenK _ rfl) (by omega)) rfl
    · have e : spotP ks ns c = c * 48271 % 10007 % (ks.length : Int) := if_neg (of_decide_eq_false hb)
      rw [e]
    rintro Γ' rfl
    obtain ⟨h0, h1⟩ := spot_lt hk ns c
    obtain ⟨k, hkd⟩ : ∃ k, k = ks.getD (spotP ks ns c).toNat ("", "") := ⟨_, rfl⟩
    have hat : atI (ksL ks) (spotP ks ns c) = some (kD k) := by rw [hkd]; exact atI_in h0 (ks_get (by omega))
    have ix : ∀ (j : Int) (d : PyData), atI [PyData.str k.1, .str k.2] j = some d → EvS (tOp (rIxT K) (tOp (rIxL K) (tVar 1) (tVar 6)) (tC (.int j))) [some (.ab (Scr K ns)), some (dL (ksL ks)), some (dL (iL (cellsP ns))), some (dI (wayP ns)), some (.own ((pL (partsP ks ns)).take i)), some (dI c), some (dI (spotP ks ns c)), some (dI (wtP ns c))] (.d d) := fun j d e => ev_ixT (ds := [.str k.1, .str k.2]) (ev_ixL (κ := .pl) (ds := ksL ks) (ev_var rfl) (ev_var rfl) hat) ev_int e
    have hil := (List.getElem?_eq_some_iff.mp hc).1
    refine ws_app (κ := .pl) (d := partD k (wtP ns c)) rfl (ev_tup (κ := .pl) (ds := [.str k.1, .str k.2, .int (wtP ns c)]) (ea_cons (ix 0 _ rfl) (ea_cons (ix 1 _ rfl) (ea_cons (ev_var rfl) ea_nil))) (by simp)) (by have := List.length_take_le i (pL (partsP ks ns)); omega) ⟨some (dI c), some (dI (spotP ks ns c)), some (dI (wtP ns c)), ?_⟩
    have hp : (pL (partsP ks ns))[i]? = some (partD k (wtP ns c)) := by
      unfold pL partsP
      rw [List.getElem?_map, List.getElem?_map, hc, hkd]
      rfl
    rw [List.take_add_one, hp]
    rfl
  · rintro Γ' ⟨a, b, e, rfl⟩
    rw [List.take_of_length_le (by simp [pL, partsP, iL])]
    exact ws_retOwn rfl rfl
end TG
set_option Elab.async false
set_option linter.all false
set_option maxRecDepth 100000
set_option maxHeartbeats 4000000
/-! W31: strange parts. -/
namespace TG
open PySem PySem.Spec PyProof.Rows L2
section
variable {K : PySem.W.Frag} {Γ : Cxt} {ta te : TE} {B0 H0 : Hp} {E : DE} {κ : TK}
abbrev rIns : V → List V → Hp → VK → Prop := fun x vs H Q => ∃ (l : Addr) (xs : List V) (i : Int) (y : V), x = .ref l ∧ vs = [.int i, y] ∧ H l = some (.lst xs) ∧ xs.length < sizeLine ∧ 0 ≤ i ∧ i < 2 ^ 63 ∧ Q .non (upd H l (.lst (xs.take i.toNat ++ [y] ++ xs.drop i.toNat)))
/-- xs.insert(j, e) -/
theorem ws_ins {i j : Nat} {xs : List PyData} {d : PyData} (h : Γ[i]? = some (some (.own xs κ))) (hi : EvS ta Γ (dI (j : Int))) (he : EvS te Γ (.d d κ)) (hl : xs.length < 100000) (hj : j < 100000) (k : E.nx (Γ.set i (some (.own (xs.take j ++ [d] ++ xs.drop j) κ)))) : WS B0 H0 (tDrop (tBM K "list" rIns (tVar i) (tCons ta (tCons te tNil)))) Γ E := fun B H σ D g k1 _ _ _ => by
  obtain ⟨a, vs, h1, h2, h3, h4⟩ := own_get g.g h
  refine ⟨.ref a, h1, Or.inl ⟨rfl, vs, SqL.of h3⟩, hi B H σ _ g.g fun u B1 H1 st1 r1 _ => he B1 H1 σ _ (g.g.step st1) fun v B2 H2 st2 r2 _ => ?_⟩
  have st := st1.trans st2
  have h3' := st.hh _ _ h3
  obtain rfl := RpK.int_inv r1
  have hB' : B2 a = none := st.fr a _ h2 h3 trivial
  refine ⟨a, vs, (j : Int), v, rfl, rfl, h3', Nat.lt_of_lt_of_le (by rw [h4.len]; exact hl) (by decide : 100000 ≤ sizeLine), by omega, by omega, ?_⟩
  rw [Int.toNat_natCast]
  exact k1 _ B2 _ σ k ((g.step st).write h rfl h1 hB' rfl ⟨a, _, rfl, hB', upd_same, ((RpKA.take j (RpKA.mono st.bb h4)).append (.one r2)).append (RpKA.drop j (RpKA.mono st.bb h4))⟩) st.bb
end
variable {P : Program} {w : World} {K : KF} {mg : Str → Option Value} {base : Heap}
def strange7 (ks : List Knd) (k : Knd) : List PyData := [partD k 0, .tuple [.str k.1, .str k.2, .bool true], partD (k.2, k.1) (if (k.2, k.1) ∈ ks then -1 else 2), .none, .list [.str k.1, .str k.2, .int 2], .tuple [.str k.1, .str k.2], .tuple [.str k.1, .str "", .int 1]]
def strangeD (ks : List Knd) (cell : Int) : PyData := (strange7 ks (kAt ks cell)).getD (cell / 4 % 7).toNat .none
def strangeI (l : List Prt) (cell : Int) : Nat := (cell / 28 % (((pL l).take 39).length + 1 : Int)).toNat
def strangeL (ks : List Knd) (l : List Prt) (cell : Int) : List PyData := ((pL l).take 39).take (strangeI l cell) ++ [strangeD ks cell] ++ ((pL l).take 39).drop (strangeI l cell)
theorem ok_Lstrange (T : Txt K mg) : FnOk P w K mg base CX0 1 853 (fdOf K 853) ["_law_parts_here", "_law_kinds_here", "_law_cell"] (spD (fun ss s => ∃ (l : List Prt) (ks : List Knd) (cell : Int), ss = [dL (pL l), dL (ksL ks), dI cell] ∧ KsOk ks ∧ s = .own (strangeL ks l cell)) noX) := by
  refine Fun.okD (f_Lstrange T) sc_Lstrange (fun ss s ⟨_, _, _, h, _⟩ => by rw [h]; rfl) fun cdv A outer h H E hr ss s ⟨l, ks, cell, hs, hk, hv⟩ => ?_
  have hu65 := hu65_of hr
  have hu64 : A.units + 3 + 64 < cLine := hr.units
  subst hs hv
  refine ⟨_, (pss_cons (ps_asg (pe_ix ix_list (pv 1) (pe_op op_mod (pv 2) (pe_callB call_len rfl (z_len T) PySem.boot_len (pa_cons (pv 1) pa_nil))) (fun _ _ => rfl)) (pg_tup rfl (pgs_cons (pg_name (i := 3) sc_Lstrange.nd rfl (Or.inl rfl)) (pgs_cons (pg_name (i := 4) sc_Lstrange.nd rfl (Or.inl rfl)) pgs_nil))))
      (pss_cons (ps_set (i := 5) sc_Lstrange.nd rfl (Or.inl rfl) (pe_lst (pa_cons (pe_tup (pa_cons (pv 3) (pa_cons (pv 4) (pa_cons pe_int pa_nil)))) (pa_cons (pe_tup (pa_cons (pv 3) (pa_cons (pv 4) (pa_cons pe_bl pa_nil)))) (pa_cons (pe_tup (pa_cons (pv 4) (pa_cons (pv 3) (pa_cons pe_int pa_nil)))) (pa_cons pe_non (pa_cons (pe_lst (pa_cons (pv 3) (pa_cons (pv 4) (pa_cons pe_int pa_nil)))) (pa_cons (pe_tup (pa_cons (pv 3) (pa_cons (pv 4) pa_nil))) (pa_cons (pe_tup (pa_cons (pv 3) (pa_cons pe_str (pa_cons pe_int pa_nil)))) pa_nil)))))))))
      (pss_cons (ps_if (pt_cmpR (op_inD hu65) (pe_tup (pa_cons (pv 4) (pa_cons (pv 3) pa_nil))) (pv 1) rfl) (pss_one (ps_asg (pe_tup (pa_cons (pv 4) (pa_cons (pv 3) (pa_cons (pe_un un_neg pe_int) pa_nil)))) (pg_sub (pv 5) pe_int set_list))) pss_nil)
      (pss_cons (ps_set (i := 6) sc_Lstrange.nd rfl (Or.inl rfl) (pe_callTy call_list_of rfl (z_list T) (by decide +kernel) (pa_cons (pe_slice sl_list (pv 0) po_none (po_some pe_int)) pa_nil)))
      (pss_cons (ps_expr (pe_bm PySem.F.plainAttrs_list PySem.F.slot_list_insert PySem.F.type_list_insert mt_insert (pv 6) (pa_cons (pe_op op_mod (pe_op op_fdiv (pv 2) pe_int) (pe_op op_add (pe_callB call_len rfl (z_len T) PySem.boot_len (pa_cons (pv 6) pa_nil)) pe_int)) (pa_cons (pe_ix ix_list (pv 5) (pe_op op_mod (pe_op op_fdiv (pv 2) pe_int) pe_int) (fun _ _ => rfl)) pa_nil))))
      (pss_one (ps_ret (pv 6)))))))), fun B0 H0 => ?_⟩
  obtain ⟨k, hkk⟩ : ∃ k, k = kAt ks cell := ⟨_, rfl⟩
  have hkm : k ∈ ks := by rw [hkk]; exact kAt_mem hk.pos cell
  have hkn := hk.nm k hkm
  refine ws_seq (ws_asgT (f := fun Γ => (Γ.set 3 (some (.d (.str k.1)))).set 4 (some (.d (.str k.2)))) (ev_ixL (κ := .pl) (ds := ksL ks) (d := kD k) (ev_var rfl) (ev_mod (ev_var rfl) ((ev_lenL (ds := ksL ks) (ev_var rfl)).is (by rw [ksL_len])) (by have := hk.pos; omega)) (by rw [hkk]; exact k_at hk.pos)) tg_tup2 ?_)
  obtain ⟨s0, hs0⟩ : ∃ s0 : List PyData, s0 = [partD k 0, .tuple [.str k.1, .str k.2, .bool true], partD (k.2, k.1) 2, .none, .list [.str k.1, .str k.2, .int 2], .tuple [.str k.1, .str k.2], .tuple [.str k.1, .str "", .int 1]] := ⟨_, rfl⟩
  refine ws_seq (ws_asg (s := .own s0) (hs0 ▸ ev_lst (κ := .pl) (ds := [partD k 0, .tuple [.str k.1, .str k.2, .bool true], partD (k.2, k.1) 2, .none, .list [.str k.1, .str k.2, .int 2], .tuple [.str k.1, .str k.2], .tuple [.str k.1, .str "", .int 1]])
    (ea_cons (ev_tup (κ := .pl) (ds := [.str k.1, .str k.2, .int 0]) (ea_cons (ev_var rfl) (ea_cons (ev_var rfl) (ea_cons ev_int ea_nil))) (by simp))
    (ea_cons (ev_tup (κ := .pl) (ds := [.str k.1, .str k.2, .bool true]) (ea_cons (ev_var rfl) (ea_cons (ev_var rfl) (ea_cons ev_bl ea_nil))) (by simp))
    (ea_cons (ev_tup (κ := .pl) (ds := [.str k.2, .str k.1, .int 2]) (ea_cons (ev_var rfl) (ea_cons (ev_var rfl) (ea_cons ev_int ea_nil))) (by simp))
    (ea_cons ev_non
    (ea_cons (ev_fz (ev_lst (κ := .pl) (ds := [.str k.1, .str k.2, .int 2]) (ea_cons (ev_var rfl) (ea_cons (ev_var rfl) (ea_cons ev_int ea_nil))) (by simp)))
    (ea_cons (ev_tup (κ := .pl) (ds := [.str k.1, .str k.2]) (ea_cons (ev_var rfl) (ea_cons (ev_var rfl) ea_nil)) (by simp))
    (ea_cons (ev_tup (κ := .pl) (ds := [.str k.1, .str "", .int 1]) (ea_cons (ev_var rfl) (ea_cons ev_str (ea_cons ev_int ea_nil))) (by simp)) ea_nil))))))) (by simp)) ?_)
  refine ws_seq (ws_mono (E := { nx := fun Γ' => Γ' = [some (dL (pL l)), some (dL (ksL ks)), some (dI cell), some (.d (.str k.1)), some (.d (.str k.2)), some (.own (strange7 ks k)), none], rt := fun _ => False }) (ws_if (b := decide ((k.2, k.1) ∈ ks)) ((et_test (ev_inD (κ := .pl) (κ' := .pl) (x := kD (k.2, k.1)) (ds := ksL ks) (ev_tup (κ := .pl) (ds := [.str k.2, .str k.1]) (ea_cons (ev_var rfl) (ea_cons (ev_var rfl) ea_nil)) (by simp)) (ev_var rfl) ((gd_k (k := (k.2, k.1)) ⟨(ok_knd hkn).2, (ok_knd hkn).1⟩).shaped (by decide)) ((gd_ks fun q hq => ok_knd (hk.nm q hq)).shaped (by decide)))).is (any_ks ks (k.2, k.1))) (fun hb => ?_) fun hb => ws_next ?_) ?_ (fun _ h => h.elim) (fun _ h => h.elim) fun _ h => h.elim)
  · refine ws_setI (i := 5) (κ := .pl) (xs := s0) (j := 2) rfl (ev_tup (κ := .pl) (ds := [.str k.2, .str k.1, .int (-1)]) (ea_cons (ev_var rfl) (ea_cons (ev_var rfl) (ea_cons neg1 ea_nil))) (by simp)) (ev_int (i := ((2 : Nat) : Int))) (by rw [hs0]; show 2 < 7; decide) ?_
    rw [hs0]
    unfold strange7
    rw [if_pos (of_decide_eq_true hb)]
    rfl
  · rw [hs0]
    unfold strange7
    rw [if_neg (of_decide_eq_false hb)]
    rfl
  rintro Γ' rfl
  refine ws_seq (ws_asg (s := .own ((pL l).take 39)) (ev_listL (ev_fz ((ev_slL (κ := .pl) (ds := pL l) (ev_var rfl) eo_none (eo_some (ev_int (i := ((39 : Nat) : Int))))).is (by rw [cut_to])))) ?_)
  have hl39 : ((pL l).take 39).length ≤ 39 := List.length_take_le _ _
  have hmI := md_lt (a := cell / 28) (n := ((((pL l).take 39).length : Int) + 1)) (by omega)
  have h7 := md_lt (a := cell / 4) (n := 7) (by decide)
  have hat : atI (strange7 ks k) (cell / 4 % 7) = some (strangeD ks cell) := by
    refine atI_in h7.1 ?_
    have hn : (cell / 4 % 7).toNat < (strange7 ks k).length := by show _ < 7; omega
    unfold strangeD
    rw [← hkk, List.getD_eq_getElem?_getD, List.getElem?_eq_getElem hn]
    rfl
  refine ws_seq (ws_freeze (i := 5) (κ := .pl) rfl (ws_ins (i := 6) (κ := .pl) (j := strangeI l cell) rfl ((ev_mod (ev_fdiv (ev_var rfl) ev_int ⟨by decide, by decide⟩) (ev_add (ev_thaw (i := 6) (κ := .pl) (κ' := .pl) rfl (ev_lenL (κ := .pl) (ds := (pL l).take 39) (ev_var rfl)) rfl) ev_int) (by omega)).is (by unfold strangeI; congr 2; omega)) (ev_ixL (κ := .pl) (ds := strange7 ks k) (ev_var rfl) (ev_mod (ev_fdiv (ev_var rfl) ev_int ⟨by decide, by decide⟩) ev_int (by decide)) hat) (by omega) (by unfold strangeI; omega) ?_))
  exact ws_retOwn rfl rfl
end TG
set_option Elab.async false
set_option linter.all false
set_option maxRecDepth 100000
set_option maxHeartbeats 4000000
/-! W32: the same goods otherwise. -/
namespace TG
open PySem PySem.Spec PyProof.Rows L2
variable {P : Program} {w : World} {K : KF} {mg : Str → Option Value} {base : Heap}
theorem ev_fdivW {Γ : Cxt} {ta tb : TE} {i j : Int} (ha : EvS ta Γ (dI i)) (hb : EvS tb Γ (dI j)) (hc : CDivW i j) : EvS (tOp (rI CDivW fun i j => .int (i / j)) ta tb) Γ (dI (i / j)) := ev_I ha hb hc (.int _)
def totL (l : List Prt) : Int := (l.map Prod.snd).sum
def minI (i j : Int) : Int := if j < i then j else i
def byN (l : List Prt) (cell : Int) : Int := 1 + cell % minI (1000000000000000 / totL l) 1000000
def rowO (l : List Prt) (cell : Int) : List Prt := l.map fun p => (p.1, p.2 * byN l cell)
def atO (l : List Prt) (cell : Int) : Nat := (cell / 3 % (l.length : Int)).toNat
def pO (l : List Prt) (cell : Int) : Prt := (rowO l cell).getD (atO l cell) (("", ""), 0)
def firO (l : List Prt) (cell : Int) : Int := 1 + cell / 11 % ((pO l cell).2 - 1)
def splitO (l : List Prt) (cell : Int) : List Prt := if 1 < (pO l cell).2 then (rowO l cell).set (atO l cell) ((pO l cell).1, firO l cell) ++ [((pO l cell).1, (pO l cell).2 - firO l cell)] else rowO l cell
def otherL (l : List Prt) (cell : Int) : List Prt := (splitO l cell).reverse
theorem by_rng {l : List Prt} (h1 : 1 ≤ totL l) (h2 : totL l ≤ 1000000000000000) (cell : Int) : 0 < minI (1000000000000000 / totL l) 1000000 ∧ 1 ≤ byN l cell ∧ byN l cell ≤ 1000000 ∧ byN l cell ≤ 1000000000000000 / totL l := by
  have hq : 1 ≤ 1000000000000000 / totL l := by
    rw [Int.le_ediv_iff_mul_le (by omega)]
    omega
  have hm : 0 < minI (1000000000000000 / totL l) 1000000 ∧ minI (1000000000000000 / totL l) 1000000 ≤ 1000000 ∧ minI (1000000000000000 / totL l) 1000000 ≤ 1000000000000000 / totL l := by
    unfold minI
    split <;> omega
  have := md_lt (a := cell) hm.1
  unfold byN
  refine ⟨hm.1, ?_, ?_, ?_⟩ <;> omega
theorem pL_len (l : List Prt) : (pL l).length = l.length := by simp [pL]
theorem pL_at {l : List Prt} {i : Nat} (h : i < l.length) : (pL l)[i]? = some (partD (l.getD i (("", ""), 0)).1 (l.getD i (("", ""), 0)).2) := by
  unfold pL
  rw [List.getElem?_map, List.getElem?_eq_getElem h, List.getD_eq_getElem?_getD, List.getElem?_eq_getElem h]
  rfl
theorem pL_set (l : List Prt) (i : Nat) (p : Prt) : (pL l).set i (partD p.1 p.2) = pL (l.set i p) := by unfold pL; rw [List.map_set]
theorem pL_snoc (l : List Prt) (p : Prt) : pL l ++ [partD p.1 p.2] = pL (l ++ [p]) := by unfold pL; rw [List.map_append]; rfl
theorem ok_Lotherwise (T : Txt K mg) : FnOk P w K mg base CX0 1 794 (fdOf K 794) ["_law_parts_here", "_law_cell"] (spD (fun ss s => ∃ (l : List Prt) (cell : Int), ss = [dL (pL l), dI cell] ∧ 1 ≤ l.length ∧ l.length ≤ 1000 ∧ 1 ≤ totL l ∧ totL l ≤ 1000000000000000 ∧ s = .own (pL (otherL l cell))) noX) := by
  refine Fun.okD (f_Lotherwise T) sc_Lotherwise (fun ss s ⟨_, _, h, _⟩ => by rw [h]; rfl) fun cdv A outer h H E hr ss s ⟨l, cell, hs, hl1, hl, ht1, ht2, hv⟩ => ?_
  subst hs hv
  refine ⟨_, (pss_cons (ps_set (i := 2) sc_Lotherwise.nd rfl (Or.inl rfl) (pe_callB (cr_sum rfl) rfl (z_sum T) (by decide +kernel) (pa_cons (pe_lc (own := [("_law_part", 10)]) rfl sc_Lotherwise.nd (pi_list (pv 0)) (blkOk_by (own := [("_law_part", 10)]) (N := N_Lotherwise) (sc := defScope s_Lotherwise) (by decide +kernel)) (fun _ _ _ _ _ => pg_name (i := 10) sc_Lotherwise.nd rfl (Or.inl rfl)) (fun _ _ _ _ _ => pts_nil) (fun _ _ _ _ _ => (pe_ix (r := rIxT K) ix_tup (pv 10) pe_int (fun _ _ => rfl)))) pa_nil)))
      (pss_cons (ps_set (i := 3) sc_Lotherwise.nd rfl (Or.inr rfl) (pe_op op_add pe_int (pe_op op_mod (pv 1) (pe_callB (call_min2 rfl) rfl (z_min T) (by decide +kernel) (pa_cons (pe_op op_fdivW (pe_op op_pow pe_int pe_int) (pv 2)) (pa_cons (pe_op op_pow pe_int pe_int) pa_nil))))))
      (pss_cons (ps_setLc (i := 4) (own := [("_law_part", 10)]) rfl sc_Lotherwise.nd rfl rfl (sw_true rfl rfl rfl (by decide +kernel)) (pi_list (pv 0)) (blkOk_by (own := [("_law_part", 10)]) (N := N_Lotherwise) (sc := defScope s_Lotherwise) (by decide +kernel)) (fun _ _ _ _ _ => pg_name (i := 10) sc_Lotherwise.nd rfl (Or.inl rfl)) (fun _ _ _ _ _ => pts_nil) (fun _ _ _ _ _ => (pe_tup (pa_cons (pe_ix (r := rIxT K) ix_tup (pv 10) pe_int (fun _ _ => rfl)) (pa_cons (pe_ix (r := rIxT K) ix_tup (pv 10) pe_int (fun _ _ => rfl)) (pa_cons (pe_op op_mul (pe_ix (r := rIxT K) ix_tup (pv 10) pe_int (fun _ _ => rfl)) (pv 3)) pa_nil))))))
      (pss_cons (ps_set (i := 5) sc_Lotherwise.nd rfl (Or.inl rfl) (pe_op op_mod (pe_op op_fdiv (pv 1) pe_int) (pe_callB call_len rfl (z_len T) PySem.boot_len (pa_cons (pv 4) pa_nil))))
      (pss_cons (ps_asg (pe_ix ix_list (pv 4) (pv 5) (fun _ _ => rfl)) (pg_tup rfl (pgs_cons (pg_name (i := 6) sc_Lotherwise.nd rfl (Or.inl rfl)) (pgs_cons (pg_name (i := 7) sc_Lotherwise.nd rfl (Or.inl rfl)) (pgs_cons (pg_name (i := 8) sc_Lotherwise.nd rfl (Or.inl rfl)) pgs_nil)))))
      (pss_cons (ps_if (pt_cmpR op_gt (pv 8) pe_int (nomark _)) (pss_cons (ps_set (i := 9) sc_Lotherwise.nd rfl (Or.inl rfl) (pe_op op_add pe_int (pe_op op_mod (pe_op op_fdiv (pv 1) pe_int) (pe_op op_sub (pv 8) pe_int))))
      (pss_cons (ps_asg (pe_tup (pa_cons (pv 6) (pa_cons (pv 7) (pa_cons (pv 9) pa_nil)))) (pg_sub (pv 4) (pv 5) set_list))
      (pss_one (ps_expr (pe_bm PySem.F.plainAttrs_list PySem.F.slot_list_append PySem.F.type_list_append mt_append (pv 4) (pa_cons (pe_tup (pa_cons (pv 6) (pa_cons (pv 7) (pa_cons (pe_op op_sub (pv 8) (pv 9)) pa_nil)))) pa_nil)))))) pss_nil)
      (pss_cons (ps_expr (pe_bm0 PySem.F.plainAttrs_list PySem.F.slot_list_reverse PySem.F.type_list_reverse mt_reverse (pv 4)))
      (pss_one (ps_ret (pv 4)))))))))), fun B0 H0 => ?_⟩
  obtain ⟨hm, hb1, hb2, hb3⟩ := by_rng ht1 ht2 cell
  have hrl : (rowO l cell).length = l.length := by simp [rowO]
  have lg : ∀ n : Nat, n ≤ 1000000000000000 → n ≠ 0 → n.log2 < 9000 := fun n h h0 => Nat.lt_trans ((Nat.log2_lt h0).mpr (Nat.lt_of_le_of_lt h (by decide : 1000000000000000 < 2 ^ 50))) (by decide)
  refine ws_seq (ws_asg (s := dI (totL l)) (ev_sumL (κ := .pl) (ns := l.map Prod.snd) ((ev_fz (ev_lcL (κ := .pl) (κ' := .pl) (ds := pL l) (fun _ => true) (fun d => match d with | .tuple [_, _, x] => x | d => d) (ev_var rfl) (List.mem_cons_self ..) (by rw [pL_len]; omega) (fun d hd => et_yes) (fun d hd _ => ?_))).is ?_)) ?_)
  · obtain ⟨p, _, rfl⟩ := List.mem_map.mp hd
    exact ev_ixT (ds := [.str p.1.1, .str p.1.2, .int p.2]) (ev_var rfl) ev_int rfl
  · rw [List.filter_eq_self.mpr fun _ _ => rfl]
    unfold pL
    rw [List.map_map, List.map_map]
    rfl
  refine ws_seq (ws_asg (s := dI (byN l cell)) (ev_add ev_int (ev_mod (ev_var rfl) (ev_min2 (i := 1000000000000000 / totL l) (j := 1000000) (ev_fdivW ((ev_pow ev_int ev_int ⟨by decide, by decide, by decide⟩).is (s' := dI 1000000000000000) (congrArg dI (by decide +kernel))) (ev_var rfl) ⟨by omega, lg _ (by omega) (by omega)⟩) ((ev_pow ev_int ev_int ⟨by decide, by decide, by decide⟩).is (s' := dI 1000000) (congrArg dI (by decide +kernel)))) hm)) ?_)
  refine ws_seq (ws_asg (s := .own (pL (rowO l cell))) ((ev_lcL (κ := .pl) (κ' := .pl) (ds := pL l) (fun _ => true) (fun d => match d with | .tuple [x, y, .int n] => .tuple [x, y, .int (n * byN l cell)] | d => d) (ev_var rfl) (List.mem_cons_self ..) (by rw [pL_len]; omega) (fun d hd => et_yes) (fun d hd _ => ?_)).is ?_) ?_)
  · obtain ⟨p, _, rfl⟩ := List.mem_map.mp hd
    exact ev_tup (κ := .pl) (ds := [.str p.1.1, .str p.1.2, .int (p.2 * byN l cell)]) (ea_cons (ev_ixT (ds := [.str p.1.1, .str p.1.2, .int p.2]) (ev_var rfl) ev_int rfl) (ea_cons (ev_ixT (ds := [.str p.1.1, .str p.1.2, .int p.2]) (ev_var rfl) ev_int rfl) (ea_cons (ev_mul (ev_ixT (ds := [.str p.1.1, .str p.1.2, .int p.2]) (ev_var rfl) ev_int rfl) (ev_var rfl) (.inr ⟨by omega, by omega⟩)) ea_nil))) (by simp)
  · rw [List.filter_eq_self.mpr fun _ _ => rfl]
    unfold pL rowO
    rw [List.map_map, List.map_map]
    rfl
  have hml := md_lt (a := cell / 3) (n := (l.length : Int)) (by omega)
  have hai : cell / 3 % (l.length : Int) = ((atO l cell : Nat) : Int) := by unfold atO; omega
  have hal : atO l cell < (rowO l cell).length := by rw [hrl]; omega
  refine ws_seq (ws_asg (s := dI ((atO l cell : Nat) : Int)) ((ev_mod (ev_fdiv (ev_var rfl) ev_int ⟨by decide, by decide⟩) (ev_thaw (i := 4) (κ := .pl) (κ' := .pl) rfl ((ev_lenL (κ := .pl) (ds := pL (rowO l cell)) (ev_var rfl)).is (by rw [pL_len, hrl])) rfl) (by omega)).is (by rw [hai])) ?_)
  obtain ⟨p, hp⟩ : ∃ p, p = pO l cell := ⟨_, rfl⟩
  have hget : atI (pL (rowO l cell)) ((atO l cell : Nat) : Int) = some (partD p.1 p.2) := by rw [hp]; exact atI_nat (pL_at hal)
  refine ws_seq (ws_asgT (κ := .pl) (x := partD p.1 p.2) (f := fun Γ => ((Γ.set 6 (some (.d (.str p.1.1)))).set 7 (some (.d (.str p.1.2)))).set 8 (some (.d (.int p.2)))) (ev_thaw (i := 4) (κ := .pl) (κ' := .pl) rfl (ev_ixL (κ := .pl) (ds := pL (rowO l cell)) (ev_var rfl) (ev_var rfl) hget) rfl) tg_tup3 ?_)
  refine ws_seq (ws_mono (E := { nx := fun Γ' => ∃ a b, Γ' = [some (dL (pL l)), some (dI cell), some (dI (totL l)), some (dI (byN l cell)), some (.own (pL (splitO l cell))), some (dI ((atO l cell : Nat) : Int)), some (.d (.str p.1.1)), some (.d (.str p.1.2)), some (.d (.int p.2)), a, b], rt := fun _ => False }) (ws_if (b := decide (1 < p.2)) (et_test (ev_gt (ev_var rfl) ev_int)) (fun hb => ?_) fun hb => ws_next ?_) ?_ (fun _ h => h.elim) (fun _ h => h.elim) fun _ h => h.elim)
  · have h1 := of_decide_eq_true hb
    have e : splitO l cell = (rowO l cell).set (atO l cell) (p.1, firO l cell) ++ [(p.1, p.2 - firO l cell)] := by unfold splitO; rw [← hp, if_pos h1]
    have ef : firO l cell = 1 + cell / 11 % (p.2 - 1) := by unfold firO; rw [← hp]
    rw [e, ← pL_snoc, ← pL_set]
    refine ws_seq (ws_asg (s := dI (firO l cell)) ((ev_add ev_int (ev_mod (ev_fdiv (ev_var rfl) ev_int ⟨by decide, by decide⟩) (ev_sub (ev_var rfl) ev_int) (by omega))).is (by rw [ef])) ?_)
    refine ws_seq (ws_setI (i := 4) (κ := .pl) (xs := pL (rowO l cell)) (j := atO l cell) (d := partD p.1 (firO l cell)) rfl (ev_tup (κ := .pl) (ds := [.str p.1.1, .str p.1.2, .int (firO l cell)]) (ea_cons (ev_var rfl) (ea_cons (ev_var rfl) (ea_cons (ev_var rfl) ea_nil))) (by simp)) (ev_var rfl) (by rw [pL_len]; exact hal) ?_)
    exact ws_app (κ := .pl) (d := partD p.1 (p.2 - firO l cell)) rfl (ev_tup (κ := .pl) (ds := [.str p.1.1, .str p.1.2, .int (p.2 - firO l cell)]) (ea_cons (ev_var rfl) (ea_cons (ev_var rfl) (ea_cons (ev_sub (ev_var rfl) (ev_var rfl)) ea_nil))) (by simp)) (by rw [List.length_set, pL_len]; omega) ⟨some (dI (firO l cell)), none, rfl⟩
  · have e : splitO l cell = rowO l cell := by unfold splitO; rw [← hp, if_neg (of_decide_eq_false hb)]
    rw [e]
    exact ⟨none, none, rfl⟩
  rintro Γ' ⟨a, b, rfl⟩
  refine ws_seq (ws_rev (i := 4) (xs := pL (splitO l cell)) rfl ?_)
  have e : (pL (splitO l cell)).reverse = pL (otherL l cell) := by unfold pL otherL; rw [List.map_reverse]
  rw [e]
  exact ws_retOwn rfl rfl
end TG
set_option Elab.async false
set_option linter.all false
set_option maxRecDepth 100000
set_option maxHeartbeats 4000000
/-! W33: kinds are good, rows are good. -/
namespace TG
open PySem PySem.Spec PyProof.Rows L2
theorem cod_mem {s : Int} (h : 0 ≤ s ∧ s < 26) : cod s ∈ lettersS.cps.toList := by
  have hl : lettersS.cps.toList.length = 26 := by decide +kernel
  have hn : s.toNat < lettersS.cps.toList.length := by omega
  unfold cod
  rw [List.getD_eq_getElem?_getD, List.getElem?_eq_getElem hn]
  exact List.getElem_mem hn
theorem sz_rng (more : Int) (k : Nat) : 1 ≤ szN more k ∧ szN more k ≤ 8 := by
  unfold szN
  split <;> omega
theorem namL_len (cell more : Int) (k : Nat) : (((sgk cell more k).take (szN more k).toNat).map cod).length = (szN more k).toNat := by
  have := sz_rng more k
  rw [List.length_map, List.length_take, sgk_len]
  omega
theorem nameN_ok (cell more : Int) (k : Nat) : nameB (nameN cell more k) = true := by
  have h := sz_rng more k
  unfold nameB nameN
  simp only [Bool.and_eq_true, decide_eq_true_eq]
  refine ⟨⟨?_, ?_⟩, ?_⟩
  · rw [List.size_toArray, namL_len]; omega
  · rw [List.size_toArray, namL_len]; omega
  · rw [List.all_eq_true]
    intro c hc
    obtain ⟨s, hs, rfl⟩ := List.mem_map.mp hc
    exact decide_eq_true (cod_mem (sgk_rng cell more k s (List.mem_of_mem_take hs)))
theorem cod_inj {s t : Int} (hs : 0 ≤ s ∧ s < 26) (ht : 0 ≤ t ∧ t < 26) (h : cod s = cod t) : s = t := by
  have key : ∀ a < 26, ∀ b < 26, lettersS.cps.toList.getD a 0 = lettersS.cps.toList.getD b 0 → a = b := by decide +kernel
  have := key s.toNat (by omega) t.toNat (by omega) h
  omega
theorem name_inj {cell more : Int} {j k : Nat} (hj : j < 4) (hk : k < 4) (h : nameN cell more j = nameN cell more k) : j = k := by
  have h1 : ((sgk cell more j).take (szN more j).toNat).map cod = ((sgk cell more k).take (szN more k).toNat).map cod := by
    have : (nameN cell more j).cps = (nameN cell more k).cps := by rw [h]
    exact congrArg Array.toList this
  have hlen : (szN more j).toNat = (szN more k).toNat := by rw [← namL_len cell more j, ← namL_len cell more k, h1]
  have r1 := sz_rng more j
  have r2 := sz_rng more k
  cases hw : wayB more with
  | true =>
    unfold szN at hlen r1 r2
    rw [if_pos hw] at hlen r1
    rw [if_pos hw] at hlen r2
    omega
  | false =>
    have hne : ¬ wayB more = true := by rw [hw]; decide
    obtain ⟨p1, p2, p3⟩ := sp_lt more
    have hsz : szN more j = 1 + more % 8 := by unfold szN; rw [if_neg hne]
    have hp : spN more < (szN more j).toNat := by rw [hsz]; omega
    have g1 : ∀ i : Nat, (((sgk cell more i).take (szN more j).toNat).map cod)[spN more]? = some (cod (((sgnL cell).getD (spN more) 0 + (i : Int)) % 26)) := fun i => by
      rw [List.getElem?_map, List.getElem?_take_of_lt hp]
      unfold sgk
      rw [if_neg hne, List.getElem?_set_self (by rw [sgn_len]; exact p1)]
      rfl
    have e1 := g1 j
    have e2 := g1 k
    rw [h1, ← hlen, e2] at e1
    have e3 := cod_inj (by omega) (by omega) (Option.some.inj e1)
    omega
theorem names_get {cell more : Int} {i : Nat} (h : i < 4) : (namesN cell more).getD i "" = nameN cell more i := by
  unfold namesN
  rw [List.getD_eq_getElem?_getD, List.getElem?_map, List.getElem?_range h]
  rfl
theorem spot_inj {c : Int} {j k : Nat} (hj : j < 4) (hk : k < 4) (h : spotN c j = spotN c k) : j = k := by
  have hs : stepN c = 1 ∨ stepN c = 4 ∨ stepN c = 5 ∨ stepN c = 7 := by
    have h4 := md_lt (a := c / 16) (n := 4) (by decide)
    have : ∀ i < 4, stepL.getD i 1 = 1 ∨ stepL.getD i 1 = 4 ∨ stepL.getD i 1 = 5 ∨ stepL.getD i 1 = 7 := by decide
    exact this _ (by omega)
  unfold spotN at h
  rcases hs with e | e | e | e <;> rw [e] at h <;> omega
theorem kinds_ok (ns : List Int) : KsOk (kindsN ns) := by
  obtain ⟨h1, h4, _⟩ := many_rng (ns.getD 0 0)
  have rng : ∀ k, 0 ≤ spotN (ns.getD 0 0) k ∧ spotN (ns.getD 0 0) k < 16 := fun k => md_lt (by decide)
  have kd : ∀ k, kindK (stN ns) (usN ns) (ns.getD 0 0) k = (nameN (ns.getD 1 0) (ns.getD 2 0) (spotN (ns.getD 0 0) k % 4).toNat, nameN (ns.getD 3 0) (ns.getD 4 0) (spotN (ns.getD 0 0) k / 4).toNat) := fun k => by
    have := rng k
    unfold kindK stN usN
    rw [names_get (by omega), names_get (by omega)]
  refine ⟨by rw [kinds_len]; exact h1, by rw [kinds_len]; exact h4, fun k hk => ?_, ?_⟩
  · obtain ⟨i, _, rfl⟩ := List.mem_map.mp hk
    rw [kd]
    unfold kndB
    rw [nameN_ok, nameN_ok]
    rfl
  · unfold kindsN
    refine List.pairwise_map.mpr (List.Pairwise.imp_of_mem (fun {i j} hi hj hne e => hne ?_) List.nodup_range)
    have hi2 := List.mem_range.mp hi
    have hj2 := List.mem_range.mp hj
    rw [kd, kd] at e
    injection e with e1 e2
    have r1 := rng i
    have r2 := rng j
    have e3 := name_inj (by omega) (by omega) e1
    have e4 := name_inj (by omega) (by omega) e2
    exact spot_inj (c := ns.getD 0 0) (by omega) (by omega) (by omega)
end TG
set_option Elab.async false
set_option linter.all false
set_option maxRecDepth 100000
set_option maxHeartbeats 4000000
/-! W34: rows are good. -/
namespace TG
open PySem PySem.Spec PyProof.Rows L2
theorem RI.rows {c : Int} {rows : List Rw} (h : RI c rows) (h1 : 1 ≤ rows.length) (h2 : rows.length ≤ 24) : RowsOk rows :=
  ⟨h1, h2, fun r hr => (h.len r hr).2, fun r hr => (h.len r hr).1, h.val, h.nod, h.clo, h.ok, fun r hr => Nat.le_trans (h.dep r hr) (by decide)⟩
theorem RowsOk.perm {a b : List Rw} (h : RowsOk b) (p : a.Perm b) : RowsOk a := by
  have pm := p.map Rw.num
  refine ⟨by rw [p.length_eq]; exact h.pos, by rw [p.length_eq]; exact h.le, fun r hr => h.ne r (p.mem_iff.mp hr), fun r hr => h.len r (p.mem_iff.mp hr), fun r hr => h.val r (p.mem_iff.mp hr), pm.nodup_iff.mpr h.nod, fun r hr h1 => pm.mem_iff.mpr (h.clo r (p.mem_iff.mp hr) h1), fun r hr => h.ok r (p.mem_iff.mp hr), fun r hr => h.dep r (p.mem_iff.mp hr)⟩
theorem mend_num (way : Int) (rows : List Rw) : (mendR way rows).map Rw.num = rows.map Rw.num := by
  unfold mendR
  rw [List.map_map]
  rfl
theorem mend_ok {c : Int} {rows : List Rw} (h : RI c rows) (h1 : 1 ≤ rows.length) (h2 : rows.length ≤ 24) (way : Int) : RowsOk (mendR way rows) := by
  have hR := h.rows h1 h2
  have hl : (mendR way rows).length = rows.length := by unfold mendR; rw [List.length_map]
  have src : ∀ q ∈ mendR way rows, ∃ r ∈ rows, q.num = r.num ∧ q.note.ok = true ∧ q.note.dep ≤ 5 := fun q hq => by
    obtain ⟨r, hr, rfl⟩ := List.mem_map.mp hq
    refine ⟨r, hr, rfl, ?_⟩
    have h0 := h.ok r hr
    have h3 := h.dep r hr
    have hm : (men1 way (sibs rows r.num.dropLast) r).ok = true ∧ (men1 way (sibs rows r.num.dropLast) r).dep ≤ 4 := by
      unfold men1
      split
      · exact ⟨rfl, by show 1 ≤ 4; decide⟩
      · exact ⟨h0, h3⟩
    have hp := sibs_pos hr
    have he : (sibs rows r.num.dropLast).getD 0 default ∈ rows := by
      have hp0 : 0 < (sibs rows r.num.dropLast).length := hp
      rw [List.getD_eq_getElem?_getD, List.getElem?_eq_getElem hp0]
      exact (List.mem_filter.mp (List.getElem_mem hp0)).1
    show (men2 way (sibs rows r.num.dropLast) r).ok = true ∧ (men2 way (sibs rows r.num.dropLast) r).dep ≤ 5
    unfold men2
    split
    · exact ⟨rfl, by show 1 ≤ 5; decide⟩
    · split
      · have e1 := h.ok _ he
        have e2 := h.dep _ he
        refine ⟨by show (true && _) = true; rw [e1]; rfl, ?_⟩
        show max 1 _ + 1 ≤ 5
        omega
      · split
        · refine ⟨by show (_ && _) = true; rw [hm.1]; rfl, ?_⟩
          have := hm.2
          show max _ _ + 1 ≤ 5
          omega
        · exact ⟨hm.1, by omega⟩
  refine ⟨by omega, by omega, fun q hq => ?_, fun q hq => ?_, fun q hq => ?_, by rw [mend_num]; exact hR.nod, fun q hq h1 => ?_, fun q hq => ?_, fun q hq => ?_⟩
  all_goals obtain ⟨r, hr, e, ho, hd⟩ := src q hq
  · rw [e]; exact hR.ne r hr
  · rw [e]; exact hR.len r hr
  · rw [e]; exact hR.val r hr
  · rw [mend_num, e]; rw [e] at h1; exact hR.clo r hr h1
  · exact ho
  · exact hd
end TG
set_option Elab.async false
set_option linter.all false
set_option maxRecDepth 100000
set_option maxHeartbeats 4000000
/-! W35: what the law picks is what the program picks. -/
namespace TG
open PySem PySem.Spec PyProof.Rows L2
theorem lt_tup (xs ys : List PyData) : PySem.W.dataLt (.tuple xs) (.tuple ys) = PySem.W.rowLt xs ys := by
  rw [PySem.W.dataLt_tuple]
  rfl
theorem le_N (a b : List Int) : PySem.W.dataLe false id (encN a) (encN b) = decide (a ≤ b) := by
  show (!PySem.W.dataLt (.tuple (b.map .int)) (.tuple (a.map .int))) = _
  rw [lt_tup, PySem.W.dataLt_ints]
  by_cases h : b < a
  · have h' : ¬ a ≤ b := fun r => List.not_lt.mpr r h
    simp [h, h']
  · have h' : a ≤ b := List.not_lt.mp h
    simp [h, h']
theorem perm_eq {α : Type} {R : α → α → Prop} (anti : ∀ a b, R a b → R b a → a = b) : ∀ {l m : List α}, l.Pairwise R → m.Pairwise R → l.Perm m → l = m
  | [], m, _, _, p => by rw [List.nil_perm.mp p]
  | a :: l, [], _, _, p => absurd p.symm (by intro q; exact absurd (List.nil_perm.mp q) (by simp))
  | a :: l, b :: m, h1, h2, p => by
    rw [List.pairwise_cons] at h1 h2
    have e : a = b := by
      have ha : a ∈ b :: m := p.mem_iff.mp (List.mem_cons_self ..)
      have hb : b ∈ a :: l := p.mem_iff.mpr (List.mem_cons_self ..)
      rcases List.mem_cons.mp ha with rfl | ha
      · rfl
      · rcases List.mem_cons.mp hb with rfl | hb
        · rfl
        · exact anti a b (h1.1 b hb) (h2.1 a ha)
    subst e
    rw [perm_eq anti h1.2 h2.2 ((List.perm_cons a).mp p)]
def leI (a b : List Int) : Bool := decide (a ≤ b)
theorem leI_pw (l : List (List Int)) : (l.mergeSort leI).Pairwise fun a b => a ≤ b := by
  have := List.pairwise_mergeSort (le := leI) (fun a b c h1 h2 => decide_eq_true (List.le_trans (of_decide_eq_true h1) (of_decide_eq_true h2))) (fun a b => by
    rcases List.le_total a b with h | h
    · simp [leI, h]
    · simp [leI, h]) l
  exact this.imp fun h => of_decide_eq_true h
theorem sortN (l : List (List Int)) : ((nL l).mergeSort (PySem.W.dataLe false id)).map unN = l.mergeSort leI := by
  have h := List.map_mergeSort (r := PySem.W.dataLe false id) (s := leI) (f := unN) (l := nL l) (fun a ha b hb => by
    obtain ⟨x, _, rfl⟩ := List.mem_map.mp ha
    obtain ⟨y, _, rfl⟩ := List.mem_map.mp hb
    rw [le_N, unN_N, unN_N]
    rfl)
  rw [h]
  congr 1
  unfold nL
  rw [List.map_map]
  refine (List.map_congr_left fun n _ => ?_).trans (List.map_id _)
  show unN (encN n) = id n
  rw [unN_N]; rfl
theorem belowN_eq (rows : List Rw) (at_ : List Int) : belowN rows at_ = ((rows.map Rw.num).filter fun n => decide (n.dropLast = at_)).mergeSort leI := by
  unfold belowN belowD
  exact sortN _
theorem ladS_eq (ks : List Knd) (rows : List Rw) (at_ look : List Int) : ladS ks rows at_ look = (ladN ks rows at_ look).mergeSort leI := by
  unfold ladS
  exact sortN _
theorem range_getD {α : Type} (l : List α) (d : α) : (List.range l.length).map (fun k => l.getD k d) = l := by
  apply List.ext_getElem
  · simp
  · intro i h1 h2
    simp [h2]
theorem filt_rng {α : Type} (l : List α) (d : α) (p : α → Bool) : ((List.range l.length).filter fun k => p (l.getD k d)).map (fun k => l.getD k d) = l.filter p := by
  conv => rhs; rw [← range_getD l d]
  rw [List.filter_map]
  rfl
def selL (ks : List Knd) (rows : List Rw) (at_ look : List Int) : List Nat := (List.range (belowN rows at_).length).filter (ladP ks rows at_ look)
theorem sel_clm (ks : List Knd) (rows : List Rw) (at_ look : List Int) : (selL ks rows at_ look).map (belN rows at_) = clmL ks rows at_ look := by
  unfold selL clmL
  exact filt_rng (belowN rows at_) [] (clAt ks rows look)
theorem ladU_eq (ks : List Knd) (rows : List Rw) (at_ look : List Int) : ladU ks rows at_ look (belowN rows at_).length = (selL ks rows at_ look).map (ladE ks rows at_ look) := rfl
theorem ladN_perm (ks : List Knd) (rows : List Rw) (at_ look : List Int) : (ladN ks rows at_ look).Perm (clmL ks rows at_ look) := by
  unfold ladN ladD
  refine ((List.mergeSort_perm _ _).map row3).trans ?_
  rw [ladU_eq, List.map_map, ← sel_clm]
  refine List.Perm.of_eq (List.map_congr_left fun k _ => ?_)
  exact row3_lad ks rows at_ look k
theorem clm_pw (ks : List Knd) (rows : List Rw) (at_ look : List Int) : (clmL ks rows at_ look).Pairwise fun a b => a ≤ b := by
  unfold clmL
  rw [belowN_eq]
  exact (leI_pw _).filter _
theorem ladS_clm (ks : List Knd) (rows : List Rw) (at_ look : List Int) : ladS ks rows at_ look = clmL ks rows at_ look := by
  rw [ladS_eq]
  exact perm_eq (fun a b h1 h2 => List.le_antisymm h1 h2) (leI_pw _) (clm_pw ks rows at_ look) ((List.mergeSort_perm _ _).trans (ladN_perm ks rows at_ look))
theorem ladD_len2 (ks : List Knd) (rows : List Rw) (at_ look : List Int) : (ladD ks rows at_ look).length = (clmL ks rows at_ look).length := by
  rw [← (ladN_perm ks rows at_ look).length_eq]
  unfold ladN
  rw [List.length_map]
end TG
set_option Elab.async false
set_option linter.all false
set_option maxRecDepth 100000
set_option maxHeartbeats 4000000
/-! W36: the first of the ladder is the law's best; the way is the law's end. -/
namespace TG
open PySem PySem.Spec PyProof.Rows L2
def cK (ks : List Knd) (rows : List Rw) (at_ : List Int) (k : Nat) : Int := cntR ks rows (belN rows at_ k)
def oK (ks : List Knd) (rows : List Rw) (at_ look : List Int) (k : Nat) : Int := offR ks rows look (belN rows at_ k)
def sK (c o : Nat → Int) (i j : Nat) : Prop := c i < c j ∨ (c i = c j ∧ (o i < o j ∨ (o i = o j ∧ j ≤ i)))
instance (c o : Nat → Int) (i j : Nat) : Decidable (sK c o i j) := by unfold sK; exact inferInstance
def sB (c o : Nat → Int) (i j : Nat) : Bool := decide (sK c o i j)
theorem sB_t {c o : Nat → Int} {i j : Nat} (h : sK c o i j) : sB c o i j = true := decide_eq_true h
theorem sB_f {c o : Nat → Int} {i j : Nat} (h : ¬ sK c o i j) : sB c o i j = false := decide_eq_false h
theorem rowLt_int (a b : Int) (xs ys : List PyData) : PySem.W.rowLt (.int a :: xs) (.int b :: ys) = if a = b then PySem.W.rowLt xs ys else decide (a < b) := by
  unfold PySem.W.rowLt
  rw [PySem.W.dataLt_cons (by simp [PySem.W.alike]), PySem.W.dataLt_int]
  simp only [PyData.eqv, beq_iff_eq]
theorem rowLt_irr (xs : List PyData) : PySem.W.rowLt xs xs = false := PyProof.Rows.lex_irrefl _
theorem lad_le (ks : List Knd) (rows : List Rw) (at_ look : List Int) (i j : Nat) : PySem.W.dataLe false id (ladE ks rows at_ look i) (ladE ks rows at_ look j) = sB (cK ks rows at_) (oK ks rows at_ look) i j := by
  show (!PySem.W.dataLt (ladE ks rows at_ look j) (ladE ks rows at_ look i)) = _
  by_cases e : i = j
  · subst e
    unfold ladE
    rw [lt_tup, rowLt_irr]
    rw [sB_t (show sK _ _ i i from .inr ⟨rfl, .inr ⟨rfl, Nat.le_refl _⟩⟩)]
    rfl
  · unfold ladE
    rw [lt_tup, rowLt_int, rowLt_int, rowLt_int]
    show (!if cK ks rows at_ j = cK ks rows at_ i then if oK ks rows at_ look j = oK ks rows at_ look i then _ else decide (oK ks rows at_ look j < oK ks rows at_ look i) else decide (cK ks rows at_ j < cK ks rows at_ i)) = _
    generalize cK ks rows at_ = c
    generalize oK ks rows at_ look = o
    by_cases h1 : c j = c i
    · rw [if_pos h1]
      by_cases h2 : o j = o i
      · rw [if_pos h2, if_neg (by omega)]
        by_cases h3 : j ≤ i
        · rw [decide_eq_false (by omega), sB_t (by unfold sK; omega)]; rfl
        · rw [decide_eq_true (by omega), sB_f (by unfold sK; omega)]; rfl
      · rw [if_neg h2]
        by_cases h3 : o j < o i
        · rw [decide_eq_true h3, sB_f (by unfold sK; omega)]; rfl
        · rw [decide_eq_false h3, sB_t (by unfold sK; omega)]; rfl
    · rw [if_neg h1]
      by_cases h3 : c j < c i
      · rw [decide_eq_true h3, sB_f (by unfold sK; omega)]; rfl
      · rw [decide_eq_false h3, sB_t (by unfold sK; omega)]; rfl
theorem ladD_eq (ks : List Knd) (rows : List Rw) (at_ look : List Int) : ladD ks rows at_ look = ((selL ks rows at_ look).mergeSort (sB (cK ks rows at_) (oK ks rows at_ look))).map (ladE ks rows at_ look) := by
  rw [List.map_mergeSort (s := PySem.W.dataLe false id) (fun i _ j _ => (lad_le ks rows at_ look i j).symm)]
  rfl
theorem ladN_eq (ks : List Knd) (rows : List Rw) (at_ look : List Int) : ladN ks rows at_ look = ((selL ks rows at_ look).mergeSort (sB (cK ks rows at_) (oK ks rows at_ look))).map (belN rows at_) := by
  unfold ladN
  rw [ladD_eq, List.map_map]
  exact List.map_congr_left fun k _ => row3_lad ks rows at_ look k
theorem sB_pw (c o : Nat → Int) (l : List Nat) : (l.mergeSort (sB c o)).Pairwise (sK c o) := by
  have := List.pairwise_mergeSort (le := sB c o) (fun i j k h1 h2 => by
    have h1 := of_decide_eq_true h1
    have h2 := of_decide_eq_true h2
    refine decide_eq_true ?_
    unfold sK at h1 h2 ⊢
    omega) (fun i j => by
    rw [Bool.or_eq_true]
    by_cases h : sK c o i j
    · exact .inl (decide_eq_true h)
    · refine .inr (decide_eq_true ?_)
      unfold sK at h ⊢
      omega) l
  exact this.imp fun h => of_decide_eq_true h
def keyK (c o : Nat → Int) (k b : Nat) : Bool := decide (c k < c b ∨ (c k = c b ∧ o k ≤ o b))
theorem fold_best (c o : Nat → Int) : ∀ (l done : List Nat) (b : Nat), l.Pairwise (· < ·) → (∀ j ∈ done, ∀ k ∈ l, j ≤ k) → b ∈ done → (∀ j ∈ done, sK c o b j) →
    l.foldl (fun b k => if keyK c o k b then k else b) b ∈ done ++ l ∧ ∀ j ∈ done ++ l, sK c o (l.foldl (fun b k => if keyK c o k b then k else b) b) j
  | [], done, b, _, _, hb, hs => by rw [List.append_nil]; exact ⟨hb, hs⟩
  | k :: l, done, b, hp, hd, hb, hs => by
    rw [List.pairwise_cons] at hp
    rw [List.foldl_cons]
    have key : ∀ j ∈ done ++ [k], sK c o (if keyK c o k b then k else b) j := fun j hj => by
      have hbj : j ∈ done → sK c o b j := hs j
      have hjk : j ∈ done → j ≤ k := fun h => hd j h k (List.mem_cons_self ..)
      rcases List.mem_append.mp hj with hj | hj
      · have h1 := hbj hj
        have h2 := hjk hj
        by_cases h : keyK c o k b = true
        · rw [if_pos h]
          have h := of_decide_eq_true h
          unfold sK at h1 ⊢
          omega
        · rw [if_neg h]; exact h1
      · rw [List.mem_singleton] at hj
        subst hj
        by_cases h : keyK c o j b = true
        · rw [if_pos h]
          exact .inr ⟨rfl, .inr ⟨rfl, Nat.le_refl _⟩⟩
        · rw [if_neg h]
          have h := of_decide_eq_false (Bool.eq_false_iff.mpr h)
          unfold sK
          omega
    have := fold_best c o l (done ++ [k]) (if keyK c o k b then k else b) hp.2 (fun j hj q hq => by
      rcases List.mem_append.mp hj with hj | hj
      · exact hd j hj q (List.mem_cons_of_mem _ hq)
      · rw [List.mem_singleton] at hj
        subst hj
        exact Nat.le_of_lt (hp.1 q hq)) (by
      by_cases h : keyK c o k b = true
      · rw [if_pos h]; exact List.mem_append_right _ (List.mem_singleton.mpr rfl)
      · rw [if_neg h]; exact List.mem_append_left _ hb) key
    rw [List.append_assoc] at this
    exact this
theorem fold_map (ks : List Knd) (rows : List Rw) (at_ look : List Int) : ∀ (l : List Nat) (b : Nat), (l.map (belN rows at_)).foldl (fun b n => if keyLe ks rows look n b then n else b) (belN rows at_ b) = belN rows at_ (l.foldl (fun b k => if keyK (cK ks rows at_) (oK ks rows at_ look) k b then k else b) b)
  | [], b => rfl
  | k :: l, b => by
    rw [List.map_cons, List.foldl_cons, List.foldl_cons, ← fold_map ks rows at_ look l]
    congr 1
    have e : keyLe ks rows look (belN rows at_ k) (belN rows at_ b) = keyK (cK ks rows at_) (oK ks rows at_ look) k b := rfl
    rw [e]
    split <;> rfl
theorem best_eq (ks : List Knd) (rows : List Rw) (at_ look : List Int) (hne : clmL ks rows at_ look ≠ []) : (ladN ks rows at_ look).getD 0 [] = bestL ks rows look (clmL ks rows at_ look) := by
  have hs : selL ks rows at_ look ≠ [] := fun e => hne (by rw [← sel_clm, e]; rfl)
  obtain ⟨k0, l, hl⟩ := List.exists_cons_of_ne_nil hs
  have hpw : (selL ks rows at_ look).Pairwise (· < ·) := by
    unfold selL
    exact List.Pairwise.filter _ List.pairwise_lt_range
  have hfirst : ∀ q ∈ selL ks rows at_ look, k0 ≤ q := fun q hq => by
    rw [hl] at hq hpw
    rw [List.pairwise_cons] at hpw
    rcases List.mem_cons.mp hq with rfl | hq
    · exact Nat.le_refl _
    · exact Nat.le_of_lt (hpw.1 q hq)
  obtain ⟨hm, hall⟩ := fold_best (cK ks rows at_) (oK ks rows at_ look) (selL ks rows at_ look) [k0] k0 hpw (fun j hj q hq => by rw [List.mem_singleton] at hj; subst hj; exact hfirst q hq) (List.mem_singleton.mpr rfl) (fun j hj => by rw [List.mem_singleton] at hj; subst hj; exact .inr ⟨rfl, .inr ⟨rfl, Nat.le_refl _⟩⟩)
  generalize hr : (selL ks rows at_ look).foldl (fun b k => if keyK (cK ks rows at_) (oK ks rows at_ look) k b then k else b) k0 = r at hm hall
  have hrs : r ∈ selL ks rows at_ look := by
    rcases List.mem_append.mp hm with h | h
    · rw [List.mem_singleton] at h; rw [h, hl]; exact List.mem_cons_self ..
    · exact h
  have hb : bestL ks rows look (clmL ks rows at_ look) = belN rows at_ r := by
    unfold bestL
    rw [← sel_clm]
    have e : ((selL ks rows at_ look).map (belN rows at_)).getD 0 [] = belN rows at_ k0 := by rw [hl]; rfl
    rw [e, fold_map, hr]
  have hp := sB_pw (cK ks rows at_) (oK ks rows at_ look) (selL ks rows at_ look)
  have hperm := List.mergeSort_perm (selL ks rows at_ look) (sB (cK ks rows at_) (oK ks rows at_ look))
  rw [ladN_eq, hb]
  generalize (selL ks rows at_ look).mergeSort (sB (cK ks rows at_) (oK ks rows at_ look)) = m at hp hperm
  have hrm : r ∈ m := hperm.mem_iff.mpr hrs
  cases m with
  | nil => cases hrm
  | cons x m =>
    show belN rows at_ x = _
    rw [List.pairwise_cons] at hp
    have h1 := hall x (List.mem_append_right _ (hperm.mem_iff.mp (List.mem_cons_self ..)))
    rcases List.mem_cons.mp hrm with rfl | hrm
    · rfl
    · have h2 := hp.1 r hrm
      have : x = r := by
        unfold sK at h1 h2
        omega
      rw [this]
theorem pick_eq (ks : List Knd) (one : Bool) (rows : List Rw) (at_ look : List Int) : pickL ks (ruleAt one rows at_) rows at_ look = pickP ks one rows at_ look := by
  have hl := ladD_len2 ks rows at_ look
  unfold pickL pickP
  by_cases h : clmL ks rows at_ look = []
  · have h2 : ladD ks rows at_ look = [] := List.length_eq_zero_iff.mp (by rw [hl, h]; rfl)
    rw [if_pos h, if_pos h2]
  · have h2 : ¬ ladD ks rows at_ look = [] := fun e => h (List.length_eq_zero_iff.mp (by rw [← hl, e]; rfl))
    rw [if_neg h, if_neg h2, hl]
    split
    · rw [ladS_clm]
    · rw [best_eq ks rows at_ look h]
theorem way_eq {ks : List Knd} {one : Bool} {rows : List Rw} (hok : RowsOk rows) (look : List Int) : ∀ (f : Nat) (at_ : List Int), endL ks rows look f (ruleAt one rows at_) at_ = (wayR ks one rows look f at_).2
  | 0, at_ => rfl
  | f + 1, at_ => by
    rw [endL_succ, wayR_succ, pick_eq]
    by_cases h : belowN rows at_ = []
    · rw [if_pos h, if_pos h]
    · rw [if_neg h, if_neg h]
      cases hp : pickP ks one rows at_ look with
      | no a => rfl
      | two a b c => rfl
      | go n =>
        show endL ks rows look f (oneOf rows n) n = (wayR ks one rows look f n).2
        rw [← way_eq hok look f n]
        congr 1
        obtain ⟨h1, h2⟩ := pick_mem hok hp
        obtain ⟨r, hf, _, _⟩ := bel_row hok h1
        unfold oneOf ruleAt
        rw [if_neg h2, hf]
theorem head_eq {ks : List Knd} {one : Bool} {rows : List Rw} (hok : RowsOk rows) (look : List Int) : headR ks one rows look = endR ks one rows look := by
  unfold headR endR
  rw [← way_eq hok look 5 []]
  rfl
theorem aud_eq {ks : List Knd} {one : Bool} {rows : List Rw} (hok : RowsOk rows) (ls : List (List Int)) : audL ks one rows ls = audL' ks one rows ls := by
  unfold audL audL'
  exact List.map_congr_left fun l _ => by rw [head_eq hok]
end TG
set_option Elab.async false
set_option linter.all false
set_option maxRecDepth 100000
set_option maxHeartbeats 4000000
/-! W37: the same goods otherwise have the same look; the wrong goods are wrong. -/
namespace TG
open PySem PySem.Spec PyProof.Rows L2
def cP (ks : List Knd) (i : Nat) (p : Prt) : Int := if ks.idxOf p.1 = i then p.2 else 0
def wsm (ks : List Knd) (i : Nat) : List Prt → Int
  | [] => 0
  | p :: l => cP ks i p + wsm ks i l
theorem wsm_app (ks : List Knd) (i : Nat) : ∀ a b : List Prt, wsm ks i (a ++ b) = wsm ks i a + wsm ks i b
  | [], b => (Int.zero_add _).symm
  | p :: a, b => by rw [List.cons_append, wsm, wsm, wsm_app ks i a b, Int.add_assoc]
theorem wsm_perm (ks : List Knd) (i : Nat) {a b : List Prt} (h : a.Perm b) : wsm ks i a = wsm ks i b := by
  induction h with
  | nil => rfl
  | cons x _ ih => rw [wsm, wsm, ih]
  | swap x y l => simp only [wsm]; omega
  | trans _ _ h1 h2 => exact h1.trans h2
theorem wsm_set (ks : List Knd) (i : Nat) (d : Prt) : ∀ (l : List Prt) (k : Nat) (q : Prt), k < l.length → wsm ks i (l.set k q) + cP ks i (l.getD k d) = wsm ks i l + cP ks i q
  | [], _, _, h => absurd h (Nat.not_lt_zero _)
  | p :: l, 0, q, _ => by
    show cP ks i q + wsm ks i l + cP ks i p = cP ks i p + wsm ks i l + cP ks i q
    omega
  | p :: l, k + 1, q, h => by
    have := wsm_set ks i d l k q (Nat.lt_of_succ_lt_succ h)
    show cP ks i p + wsm ks i (l.set k q) + cP ks i (l.getD k d) = cP ks i p + wsm ks i l + cP ks i q
    omega
theorem wsm_scale (ks : List Knd) (i : Nat) (c : Int) : ∀ l : List Prt, wsm ks i (l.map fun p => (p.1, p.2 * c)) = wsm ks i l * c
  | [] => (Int.zero_mul _).symm
  | p :: l => by
    rw [List.map_cons, wsm, wsm, wsm_scale ks i c l, Int.add_mul]
    congr 1
    unfold cP
    by_cases e : ks.idxOf p.1 = i
    · rw [if_pos e, if_pos e]
    · rw [if_neg e, if_neg e, Int.zero_mul]
theorem cP_add (ks : List Knd) (i : Nat) (k : Knd) (x y : Int) : cP ks i (k, x) + cP ks i (k, y - x) = cP ks i (k, y) := by
  unfold cP
  split <;> omega
theorem wgt_get (ks : List Knd) : ∀ (l : List Prt) (w : List Int) (i : Nat), (∀ p ∈ l, p.1 ∈ ks) → w.length = ks.length → i < ks.length → (l.foldl (wgt1 ks) w).getD i 0 = w.getD i 0 + wsm ks i l
  | [], w, i, _, _, _ => (Int.add_zero _).symm
  | p :: l, w, i, h, hw, hi => by
    have hl : (wgt1 ks w p).length = ks.length := by unfold wgt1; rw [List.length_set]; exact hw
    rw [List.foldl_cons, wgt_get ks l _ i (fun q hq => h q (List.mem_cons_of_mem _ hq)) hl hi, wsm]
    have e1 : (wgt1 ks w p).getD i 0 = w.getD i 0 + cP ks i p := by
      unfold wgt1 cP
      by_cases e : ks.idxOf p.1 = i
      · rw [if_pos e, e, List.getD_eq_getElem?_getD, List.getElem?_set_self (by rw [hw]; exact hi)]
        rfl
      · rw [if_neg e, List.getD_eq_getElem?_getD, List.getElem?_set_ne e, List.getD_eq_getElem?_getD, Int.add_zero]
    rw [e1, Int.add_assoc]
theorem wgt_eq {ks : List Knd} {l : List Prt} (h : ∀ p ∈ l, p.1 ∈ ks) : wgt ks l = (List.range ks.length).map fun i => wsm ks i l := by
  apply List.ext_getElem
  · rw [wgt_len, List.length_map, List.length_range]
  · intro i h1 h2
    have hi : i < ks.length := by rw [wgt_len] at h1; exact h1
    have e := wgt_get ks l (List.replicate ks.length 0) i h (by rw [List.length_replicate]) hi
    have e2 : (List.replicate ks.length (0 : Int)).getD i 0 = 0 := by
      rw [List.getD_eq_getElem?_getD, List.getElem?_replicate, if_pos hi]
      rfl
    rw [e2, Int.zero_add] at e
    have e3 : (wgt ks l).getD i 0 = (wgt ks l)[i] := by rw [List.getD_eq_getElem?_getD, List.getElem?_eq_getElem h1]; rfl
    rw [← e3, List.getElem_map, List.getElem_range]
    exact e
theorem sum_set : ∀ (w : List Int) (j : Nat) (c : Int), j < w.length → (w.set j (w.getD j 0 + c)).sum = w.sum + c
  | [], _, _, h => absurd h (Nat.not_lt_zero _)
  | x :: w, 0, c, _ => by
    show ((x + c) :: w).sum = (x :: w).sum + c
    rw [List.sum_cons, List.sum_cons]
    omega
  | x :: w, j + 1, c, h => by
    show (x :: w.set j (w.getD j 0 + c)).sum = (x :: w).sum + c
    rw [List.sum_cons, List.sum_cons, sum_set w j c (Nat.lt_of_succ_lt_succ h)]
    omega
theorem wgt_sum' (ks : List Knd) : ∀ (l : List Prt) (w : List Int), (∀ p ∈ l, p.1 ∈ ks) → w.length = ks.length → (l.foldl (wgt1 ks) w).sum = w.sum + totL l
  | [], w, _, _ => (Int.add_zero _).symm
  | p :: l, w, h, hw => by
    have hp := List.idxOf_lt_length_of_mem (h p (List.mem_cons_self ..))
    have hl : (wgt1 ks w p).length = ks.length := by unfold wgt1; rw [List.length_set]; exact hw
    rw [List.foldl_cons, wgt_sum' ks l _ (fun q hq => h q (List.mem_cons_of_mem _ hq)) hl]
    have e : (wgt1 ks w p).sum = w.sum + p.2 := by
      unfold wgt1
      exact sum_set w _ _ (by rw [hw]; exact hp)
    have e2 : totL (p :: l) = p.2 + totL l := by unfold totL; rw [List.map_cons, List.sum_cons]
    rw [e, e2, Int.add_assoc]
theorem rep_sum : ∀ n : Nat, (List.replicate n (0 : Int)).sum = 0
  | 0 => rfl
  | n + 1 => by rw [List.replicate_succ, List.sum_cons, rep_sum n]; rfl
theorem wgt_sum {ks : List Knd} {l : List Prt} (h : ∀ p ∈ l, p.1 ∈ ks) : (wgt ks l).sum = totL l := by
  unfold wgt
  rw [wgt_sum' ks l _ h (by rw [List.length_replicate]), rep_sum, Int.zero_add]
theorem tot_app (a b : List Prt) : totL (a ++ b) = totL a + totL b := by
  unfold totL
  rw [List.map_append]
  induction a with
  | nil => exact (Int.zero_add _).symm
  | cons x a ih => rw [List.map_cons, List.cons_append, List.sum_cons, List.sum_cons, ih, Int.add_assoc]
theorem tot_rng : ∀ {l : List Prt} {m : Int}, (∀ p ∈ l, 1 ≤ p.2 ∧ p.2 ≤ m) → (l.length : Int) ≤ totL l ∧ totL l ≤ m * (l.length : Int)
  | [], m, _ => ⟨Int.le_refl _, by show (0 : Int) ≤ m * 0; rw [Int.mul_zero]; exact Int.le_refl _⟩
  | p :: l, m, h => by
    obtain ⟨h1, h2⟩ := h p (List.mem_cons_self ..)
    obtain ⟨h3, h4⟩ := tot_rng (l := l) (m := m) fun q hq => h q (List.mem_cons_of_mem _ hq)
    have e2 : totL (p :: l) = p.2 + totL l := by unfold totL; rw [List.map_cons, List.sum_cons]
    have e3 : ((p :: l).length : Int) = (l.length : Int) + 1 := by rw [List.length_cons]; rfl
    rw [e2, e3, Int.mul_add, Int.mul_one]
    exact ⟨by omega, by omega⟩
/-! the law's parts -/
theorem parts_good {ks : List Knd} (h : 1 ≤ ks.length) (ns : List Int) : goodL ks (partsP ks ns) := fun p hp => by
  obtain ⟨c, _, rfl⟩ := List.mem_map.mp hp
  obtain ⟨h0, h1⟩ := spot_lt h ns c
  have hn : (spotP ks ns c).toNat < ks.length := by omega
  refine ⟨?_, by have := (wt_rng ns c).1; show 0 < wtP ns c; omega⟩
  show ks.getD (spotP ks ns c).toNat ("", "") ∈ ks
  rw [List.getD_eq_getElem?_getD, List.getElem?_eq_getElem hn]
  exact List.getElem_mem hn
theorem parts_len (ks : List Knd) (ns : List Int) : 1 ≤ (partsP ks ns).length ∧ (partsP ks ns).length ≤ 39 := by
  unfold partsP
  rw [List.length_map]
  exact cells_len ns
theorem parts_tot (ks : List Knd) (ns : List Int) : 1 ≤ totL (partsP ks ns) ∧ totL (partsP ks ns) ≤ 1000000000000000 := by
  obtain ⟨h1, h2⟩ := parts_len ks ns
  obtain ⟨h3, h4⟩ := tot_rng (l := partsP ks ns) (m := 10000000000000) fun p hp => by
    obtain ⟨c, _, rfl⟩ := List.mem_map.mp hp
    exact wt_rng ns c
  exact ⟨by omega, by omega⟩
/-! told otherwise -/
theorem rowO_len (l : List Prt) (cell : Int) : (rowO l cell).length = l.length := by unfold rowO; rw [List.length_map]
theorem atO_lt {l : List Prt} (h : 1 ≤ l.length) (cell : Int) : atO l cell < (rowO l cell).length := by
  have hm := md_lt (a := cell / 3) (n := (l.length : Int)) (by omega)
  rw [rowO_len]
  unfold atO
  omega
theorem wsm_other (ks : List Knd) (i : Nat) {l : List Prt} (h : 1 ≤ l.length) (cell : Int) : wsm ks i (otherL l cell) = wsm ks i l * byN l cell := by
  have e0 : wsm ks i (rowO l cell) = wsm ks i l * byN l cell := wsm_scale ks i (byN l cell) l
  unfold otherL
  rw [wsm_perm ks i (List.reverse_perm _), ← e0]
  unfold splitO
  split
  · have e1 := wsm_set ks i (("", ""), 0) (rowO l cell) (atO l cell) ((pO l cell).1, firO l cell) (atO_lt h cell)
    have e2 : (rowO l cell).getD (atO l cell) (("", ""), 0) = ((pO l cell).1, (pO l cell).2) := rfl
    rw [e2] at e1
    have e3 := cP_add ks i (pO l cell).1 (firO l cell) (pO l cell).2
    have e4 : wsm ks i [((pO l cell).1, (pO l cell).2 - firO l cell)] = cP ks i ((pO l cell).1, (pO l cell).2 - firO l cell) := Int.add_zero _
    rw [wsm_app, e4]
    omega
  · rfl
theorem fir_rng {l : List Prt} {cell : Int} (h : 1 < (pO l cell).2) : 1 ≤ firO l cell ∧ firO l cell < (pO l cell).2 := by
  have := md_lt (a := cell / 11) (n := (pO l cell).2 - 1) (by omega)
  unfold firO
  omega
theorem other_mem {ks : List Knd} {l : List Prt} {cell : Int} (h : 1 ≤ l.length) (hb : 1 ≤ byN l cell) (hg : goodL ks l) : goodL ks (otherL l cell) := by
  have hr : goodL ks (rowO l cell) := fun p hp => by
    obtain ⟨q, hq, rfl⟩ := List.mem_map.mp hp
    obtain ⟨h1, h2⟩ := hg q hq
    exact ⟨h1, Int.mul_pos h2 (by omega)⟩
  have hp : pO l cell ∈ rowO l cell := by
    have := atO_lt h cell
    unfold pO
    rw [List.getD_eq_getElem?_getD, List.getElem?_eq_getElem this]
    exact List.getElem_mem this
  intro p hm
  have hm2 : p ∈ splitO l cell := List.mem_reverse.mp hm
  unfold splitO at hm2
  split at hm2
  · next h1 =>
    obtain ⟨f1, f2⟩ := fir_rng h1
    rcases List.mem_append.mp hm2 with hm2 | hm2
    · rcases List.mem_or_eq_of_mem_set hm2 with hm2 | rfl
      · exact hr p hm2
      · exact ⟨(hr _ hp).1, by show 0 < firO l cell; omega⟩
    · rw [List.mem_singleton] at hm2
      subst hm2
      exact ⟨(hr _ hp).1, by show 0 < (pO l cell).2 - firO l cell; omega⟩
  · exact hr p hm2
theorem other_len {l : List Prt} (h : 1 ≤ l.length) (cell : Int) : 1 ≤ (otherL l cell).length ∧ (otherL l cell).length ≤ l.length + 1 := by
  unfold otherL
  rw [List.length_reverse]
  unfold splitO
  split
  · rw [List.length_append, List.length_set, rowO_len, List.length_singleton]
    omega
  · rw [rowO_len]
    omega
theorem sum_scale (c : Int) : ∀ l : List Int, (l.map fun x => x * c).sum = l.sum * c
  | [] => (Int.zero_mul _).symm
  | x :: l => by rw [List.map_cons, List.sum_cons, List.sum_cons, sum_scale c l, Int.add_mul]
theorem wgt_other {ks : List Knd} {l : List Prt} {cell : Int} (h : 1 ≤ l.length) (hb : 1 ≤ byN l cell) (hg : goodL ks l) : wgt ks (otherL l cell) = (wgt ks l).map fun x => x * byN l cell := by
  rw [wgt_eq fun p hp => (other_mem h hb hg p hp).1, wgt_eq fun p hp => (hg p hp).1, List.map_map]
  exact List.map_congr_left fun i _ => wsm_other ks i h cell
theorem other_sum {ks : List Knd} {l : List Prt} {cell : Int} (h : 1 ≤ l.length) (hg : goodL ks l) (h1 : 1 ≤ totL l) (h2 : totL l ≤ 1000000000000000) : (wgt ks (otherL l cell)).sum ≤ 1000000000000000 := by
  obtain ⟨_, hb, _, hb3⟩ := by_rng h1 h2 cell
  rw [wgt_other h hb hg, sum_scale, wgt_sum fun p hp => (hg p hp).1]
  have e := Int.mul_le_mul_of_nonneg_left hb3 (show 0 ≤ totL l by omega)
  have e2 := Int.mul_ediv_self_le (x := 1000000000000000) (k := totL l) (by omega)
  omega
/-! the look of weights times a number -/
theorem mul_lt {c : Int} (hc : 0 < c) (x y : Int) : x * c < y * c ↔ x < y := ⟨fun h => Int.lt_of_mul_lt_mul_right h (Int.le_of_lt hc), fun h => Int.mul_lt_mul_of_pos_right h hc⟩
theorem mul_eq {c : Int} (hc : 0 < c) (x y : Int) : x * c = y * c ↔ x = y := ⟨fun h => Int.eq_of_mul_eq_mul_right (Int.ne_of_gt hc) h, fun h => by rw [h]⟩
theorem ins1_scale {c : Int} (hc : 0 < c) (x : Int) : ∀ l : List Int, ins1 (x * c) (l.map fun y => y * c) = (ins1 x l).map fun y => y * c
  | [] => rfl
  | y :: l => by
    rw [List.map_cons]
    unfold ins1
    by_cases h1 : x < y
    · rw [if_pos h1, if_pos ((mul_lt hc x y).mpr h1)]; rfl
    · rw [if_neg h1, if_neg (fun h => h1 ((mul_lt hc x y).mp h))]
      by_cases h2 : x = y
      · rw [if_pos h2, if_pos ((mul_eq hc x y).mpr h2)]; rfl
      · rw [if_neg h2, if_neg (fun h => h2 ((mul_eq hc x y).mp h)), ins1_scale hc x l]; rfl
theorem rise_scale {c : Int} (hc : 0 < c) : ∀ l : List Int, rise (l.map fun y => y * c) = (rise l).map fun y => y * c
  | [] => rfl
  | x :: l => by rw [List.map_cons, rise, rise, rise_scale hc l, ins1_scale hc]
theorem idx_scale {c : Int} (hc : 0 < c) (x : Int) : ∀ l : List Int, (l.map fun y => y * c).idxOf (x * c) = l.idxOf x
  | [] => rfl
  | y :: l => by
    have e : (y * c == x * c) = (y == x) := by
      by_cases h : y = x
      · rw [h, beq_self_eq_true, beq_self_eq_true]
      · rw [beq_eq_false_iff_ne.mpr h, beq_eq_false_iff_ne.mpr fun z => h ((mul_eq hc y x).mp z)]
    rw [List.map_cons, List.idxOf_cons, List.idxOf_cons, idx_scale hc x l, e]
theorem pos_scale {c : Int} (hc : 0 < c) (x : Int) : 0 < x * c ↔ 0 < x := by
  have := mul_lt hc 0 x
  rw [Int.zero_mul] at this
  exact this
theorem look_scale {c : Int} (hc : 0 < c) (ws : List Int) : lookOf (ws.map fun x => x * c) = lookOf ws := by
  have e : ((ws.map fun x => x * c).filter fun x => decide (0 < x)) = (ws.filter fun x => decide (0 < x)).map fun x => x * c := by
    rw [List.filter_map]
    congr 2
    funext x
    exact decide_eq_decide.mpr (pos_scale hc x)
  unfold lookOf
  rw [e, rise_scale hc, List.map_map]
  refine List.map_congr_left fun x _ => ?_
  show (if 0 < x * c then (((rise (ws.filter fun x => decide (0 < x))).map fun y => y * c).idxOf (x * c) : Int) + 1 else 0) = if 0 < x then ((rise (ws.filter fun x => decide (0 < x))).idxOf x : Int) + 1 else 0
  by_cases h : 0 < x
  · rw [if_pos h, if_pos ((pos_scale hc x).mpr h), idx_scale hc]
  · rw [if_neg h, if_neg (fun z => h ((pos_scale hc x).mp z))]
theorem look_other {ks : List Knd} {l : List Prt} {cell : Int} (h : 1 ≤ l.length) (hb : 1 ≤ byN l cell) (hg : goodL ks l) : lookOf (wgt ks (otherL l cell)) = lookOf (wgt ks l) := by
  rw [wgt_other h hb hg]
  exact look_scale (by omega) _
/-! the wrong goods -/
theorem nm_len {x : Str} (h : nameB x = true) : x.length ≤ 100000 := by
  unfold nameB at h
  simp only [Bool.and_eq_true, decide_eq_true_eq] at h
  have := h.1.2
  show x.cps.size ≤ 100000
  omega
theorem strange_bad {ks : List Knd} (hk : KsOk ks) (cell : Int) : BadPart ks (strangeD ks cell) := by
  have hm := kAt_mem hk.pos cell
  have h7 := md_lt (a := cell / 4) (n := 7) (by decide)
  unfold strangeD strange7
  generalize kAt ks cell = k at hm
  have hkn := hk.nm k hm
  have hi : (cell / 4 % 7).toNat < 7 := by omega
  generalize (cell / 4 % 7).toNat = i at hi
  have hkn2 := hkn
  unfold kndB at hkn2
  rw [Bool.and_eq_true] at hkn2
  match i, hi with
  | 0, _ => exact .small hm (by decide)
  | 1, _ => exact .what hm rfl
  | 2, _ =>
    show BadPart ks (partD (k.2, k.1) _)
    by_cases h : (k.2, k.1) ∈ ks
    · rw [if_pos h]
      exact .small (k := (k.2, k.1)) h (by decide)
    · exact .kind (by unfold kndB; rw [Bool.and_eq_true]; exact ⟨hkn2.2, hkn2.1⟩) h
  | 3, _ => exact .non
  | 4, _ => exact .lst _
  | 5, _ => exact .two _ _
  | 6, _ => exact .name (nm_len hkn2.1) (by decide) (by unfold kndB; rw [show nameB ((k.1, ("" : Str)).2) = false from by show nameB "" = false; decide, Bool.and_false])
theorem pL_app (a b : List Prt) : pL (a ++ b) = pL a ++ pL b := by unfold pL; rw [List.map_append]
theorem strange_parts {ks : List Knd} (hk : KsOk ks) {l : List Prt} (hg : goodL ks l) (hl : l.length ≤ 39) (cell : Int) : BadParts ks (.list (strangeL ks l cell)) := by
  have e : (pL l).take 39 = pL l := List.take_of_length_le (by rw [pL_len]; exact hl)
  have et : ∀ i, (pL l).take i = pL (l.take i) := fun i => by unfold pL; rw [List.map_take]
  unfold strangeL
  rw [e, et, List.append_assoc]
  refine .part (fun p hp => hg p (List.mem_of_mem_take hp)) (strange_bad hk cell) ?_
  show (l.take _).length + ((pL l).drop _).length < 40
  rw [List.length_take, List.length_drop, pL_len]
  omega
theorem many_parts {ks : List Knd} {l : List Prt} (h : 1 ≤ l.length) : BadParts ks (.list (((List.replicate 41 (pL l)).flatten).take 41)) := by
  refine .many (.inr ?_)
  rw [List.length_take, List.length_flatten, List.map_replicate, List.sum_replicate_nat, pL_len]
  omega
theorem heavy_parts {ks : List Knd} (hk : KsOk ks) {l : List Prt} (hg : goodL ks l) (hl : l.length ≤ 39) (ht : 1 ≤ totL l) : BadParts ks (.list ((pL l).take 39 ++ [partD (ks.getD 0 ("", "")) 1000000000000000])) := by
  have e : (pL l).take 39 = pL l := List.take_of_length_le (by rw [pL_len]; exact hl)
  have h0 : ks.getD 0 ("", "") ∈ ks := by
    have := hk.pos
    rw [List.getD_eq_getElem?_getD, List.getElem?_eq_getElem (by omega)]
    exact List.getElem_mem _
  have e2 : (pL l).take 39 ++ [partD (ks.getD 0 ("", "")) 1000000000000000] = pL (l ++ [(ks.getD 0 ("", ""), 1000000000000000)]) := by rw [e, pL_app]; rfl
  have hg2 : goodL ks (l ++ [(ks.getD 0 ("", ""), 1000000000000000)]) := fun p hp => by
    rcases List.mem_append.mp hp with hp | hp
    · exact hg p hp
    · rw [List.mem_singleton] at hp
      subst hp
      exact ⟨h0, by show (0 : Int) < 1000000000000000; decide⟩
  rw [e2]
  refine .heavy hg2 (by rw [List.length_append, List.length_singleton]; omega) (by rw [List.length_append, List.length_singleton]; omega) ?_
  rw [wgt_sum fun p hp => (hg2 p hp).1, tot_app]
  have : totL [(ks.getD 0 ("", ""), 1000000000000000)] = 1000000000000000 := by
    show (1000000000000000 : Int) + 0 = 1000000000000000
    decide
  omega
end TG
set_option Elab.async false
set_option linter.all false
set_option maxRecDepth 100000
set_option maxHeartbeats 8000000
/-! W38: the tree is made; what was found is compared, then changed. -/
namespace TG
open PySem PySem.Spec PyProof.Rows L2
section
variable {K : KF} {Γ : Cxt} {te ta : TE} {B0 H0 : Hp} {E : DE} {s : Sl}
def noB (Γ : Cxt) : Bool := Γ.all fun o => match o with
  | some s => !s.isOwn
  | none => true
theorem noB_ok (h : noB Γ = true) : NoOwn Γ := fun i s e => by
  have := List.all_eq_true.mp h _ (List.mem_of_getElem? e)
  simpa using this
theorem GR.put {B H : Hp} {σ : L2.St} {i : Nat} {v : V} (g : GR B H σ Γ) (h : σ[i]? = some (some v)) (r : SlR B H v s) (n : s.isOwn = false) : GR B H σ (Γ.set i (some s)) := by
  have e : σ.set i (some v) = σ := by
    apply List.ext_getElem?
    intro j
    by_cases q : i = j
    · subst q
      rw [List.getElem?_set_self (List.getElem?_eq_some_iff.mp h).1, h]
    · rw [List.getElem?_set_ne q]
  have := g.set0 r n (i := i)
  rw [e] at this
  exact this
/-- a slot of which nothing is said is stored -/
theorem SR.blind {B H : Hp} {σ : L2.St} {i : Nat} {u : Option V} (g : SR B0 H0 B H σ Γ) (h : Γ[i]? = some none) : SR B0 H0 B H (σ.set i u) Γ := by
  have ne : ∀ {j : Nat} {t : Sl}, Γ[j]? = some (some t) → i ≠ j := fun {j t} e z => by subst z; rw [h] at e; cases e
  have ge : ∀ {j : Nat} {t : Sl}, Γ[j]? = some (some t) → (σ.set i u)[j]? = σ[j]? := fun {j t} e => List.getElem?_set_ne (ne e)
  refine ⟨g.st, ⟨g.g.ex, by rw [List.length_set]; exact g.g.len, fun j t e => ?_, fun j k t u' jk e1 e2 o1 o2 => ?_⟩, fun j t a e o e2 => ?_⟩
  · rw [ge e]; exact g.g.at_ j t e
  · rw [ge e1, ge e2]; exact g.g.ow j k t u' jk e1 e2 o1 o2
  · rw [ge e] at e2; exact g.fr j t a e o e2
theorem Step.same {B H H' : Hp} (s : Step B0 H0 B H) (h : Gr H H') : Step B0 H0 B H' := ⟨s.bb, s.hh.trans h, s.bh.trans h, s.fr⟩
/-- in a context without own slots only the view counts -/
theorem SR.on {B H H' : Hp} {σ : L2.St} (g : SR B0 H0 B H σ Γ) (no : NoOwn Γ) (st : Step B0 H0 B H') : SR B0 H0 B H' σ Γ :=
  ⟨st, g.g.to no .rfl st.bh, fun i s a e o => by rw [no i s e] at o; cases o⟩
/-! Tree(kinds, rule, rows) -/
theorem ev_tree {ks : List Knd} {one : Bool} {rows : List Rw} {E : XK} {ta : TA} (h : EvA ta Γ [dL (ksL ks), dS (ruleS one), dL (rwL rows)]) (hk : KsOk ks) (hok : RowsOk rows) : EvS (tMake 662 spTree [] E ta) Γ (.ab (TreeP ks one rows)) := fun B H σ Q g q =>
  h B H σ _ g fun vs B1 H1 st r x dx hx hd ne => by
    obtain ⟨Hc, hHc⟩ : ∃ Hc, Hc = upd H1 dx (.own x) := ⟨_, rfl⟩
    have hBx : B1 x = none := st.bh.free hx
    have g1 : Gr H1 Hc := by rw [hHc]; exact Gr.new hd
    have hcx : Hc x = none := by rw [hHc, upd_ne (fun z => ne z.symm)]; exact hx
    have g2 : Gr B1 (upd Hc x (.ins 662 dx [])) := (st.bh.trans g1).trans (Gr.new hcx)
    have r2 : SlA B1 (upd Hc x (.ins 662 dx [])) vs [dL (ksL ks), dS (ruleS one), dL (rwL rows)] := SlA.step ⟨.rfl, g1.trans (Gr.new hcx), g2, fun _ _ e _ _ => e⟩ r
    have ec : cutA (upd Hc x (.ins 662 dx [])) x = Hc := by
      funext b
      show (if b = x then none else upd Hc x (.ins 662 dx []) b) = Hc b
      by_cases e : b = x
      · rw [if_pos e, e, hcx]
      · rw [if_neg e, upd_ne e]
    rw [← hHc]
    refine ⟨B1, x, dx, ks, one, rows, vs, by simp, g2, upd_same, hBx, r2, hk, hok, fun B' H' st2 ht => ⟨rfl, ?_⟩⟩
    rw [ec] at st2
    have sA : Step B1 H1 B1 Hc := ⟨.rfl, g1, st.bh.trans g1, fun _ _ e _ _ => e⟩
    exact q _ B' H' ((st.trans sA).trans st2) (Ab.of ht) (.no rfl)
/-! what was found -/
theorem ws_found {te8 : TE} {tt : TT} {ts rest : TS} {ks : List Knd} {one : Bool} {rows : List Rw} {t : Int} {xs ds : List PyData} (h5 : Γ[5]? = some (some (.ab (TreeP ks one rows)))) (no : NoOwn Γ) (h7 : Γ[7]? = some none) (h8 : 8 < Γ.length) (hk : KsOk ks) (hok : RowsOk rows) (ha : AudR ks one rows t xs ds) (hl : xs.length < 100000)
    (e8 : EvS te8 Γ (.d (.tuple (.int t :: .list xs :: ds)) .an)) (ht : EvT tt ((Γ.set 8 (some (.d (.tuple (.int t :: .list xs :: ds)) .an))).set 7 (some (.d (.tuple (.int t :: .list xs :: ds)) .an))) false)
    (k : WS B0 H0 rest (Γ.set 8 (some (.d (.tuple (.int t :: .list xs :: ds)) .an))) E) :
    WS B0 H0 (tSeq (tAsg (tCall spA [] E0 (tCons (tVar 5) tNil)) (gName 7)) (tSeq (tAsg te8 (gName 8)) (tSeq (tIfS tt ts tNext) (tSeq (tDrop (tBM K "list" rAppend (tOp (rIxT K) (tVar 7) (tC (.int 1))) (tCons (tC .non) tNil))) rest)))) Γ E := fun B H σ D g k1 k2 k3 k4 => by
  obtain ⟨v, hv, rv⟩ := g.g.at_ 5 _ h5
  refine ⟨v, hv, ?_⟩
  refine ⟨B, ks, one, rows, v, t, xs, ds, rfl, g.g.ex, rv, hk, hok, ha, fun u B1 H1 st1 box => ?_⟩
  have h7l : 7 < σ.length := by rw [g.g.len]; omega
  have g1 : SR B0 H0 B1 H1 (σ.set 7 (some u)) Γ := (g.step st1).blind h7
  refine e8 B1 H1 _ _ g1.g fun v8 B2 H2 st2 r8 f8 => ?_
  have g2 := g1.setN (i := 8) st2 r8 f8
  have no2 : NoOwn (Γ.set 8 (some (.d (.tuple (.int t :: .list xs :: ds)) .an))) := no.set rfl
  have box2 := box.step st2
  obtain ⟨B3, st3, gb, r3⟩ := box_d (st1.trans st2) box2
  have h7s : ((σ.set 7 (some u)).set 8 (some v8))[7]? = some (some u) := by
    rw [List.getElem?_set_ne (by decide), List.getElem?_set_self h7l]
  have g3 : GR B3 H2 ((σ.set 7 (some u)).set 8 (some v8)) ((Γ.set 8 (some (.d (.tuple (.int t :: .list xs :: ds)) .an))).set 7 (some (.d (.tuple (.int t :: .list xs :: ds)) .an))) := (g2.g.to no2 gb st3.bh).put h7s r3 rfl
  refine ht B3 H2 _ _ g3 fun B4 H4 st4 => ?_
  obtain ⟨p, a, vs, ws, rfl, hp, hB, haa, r1, r2, h0⟩ := box2
  have g4 : SR B0 H0 B2 H4 ((σ.set 7 (some (.ref p))).set 8 (some v8)) (Γ.set 8 (some (.d (.tuple (.int t :: .list xs :: ds)) .an))) := g2.on no2 (g2.st.same st4.hh)
  have hp4 := st4.hh _ _ hp
  have ha4 := st4.hh _ _ haa
  have h0a : H0 a = none := g.st.hh.free h0
  refine ⟨.ref p, h7s, ?_⟩
  refine ⟨_, _, 1, .ref a, rfl, rfl, .inl (.inl hp4), atI_nat (k := 1) rfl, ?_⟩
  refine ⟨.inl ⟨rfl, vs, SqL.of ha4⟩, ?_⟩
  refine ⟨a, vs, .non, rfl, rfl, ha4, Nat.lt_of_lt_of_le (by rw [r1.len]; exact hl) (by decide : 100000 ≤ sizeLine), ?_⟩
  have g5 : SR B0 H0 B2 (upd H4 a (.lst (vs ++ [.non]))) ((σ.set 7 (some (.ref p))).set 8 (some v8)) (Γ.set 8 (some (.d (.tuple (.int t :: .list xs :: ds)) .an))) := g4.on no2 (g4.st.upd' h0a hB)
  have gB : Gr B B2 := st1.bb.trans st2.bb
  exact k B2 _ _ D g5 (fun Γ' B' H' σ' q g' e => k1 Γ' B' H' σ' q g' (gB.trans e)) k2 (fun Γ' B' H' σ' q g' e => k3 Γ' B' H' σ' q g' (gB.trans e)) (fun Γ' B' H' σ' q g' e => k4 Γ' B' H' σ' q g' (gB.trans e))
/-- the audit, told as data -/
theorem ev_audit {ks : List Knd} {one : Bool} {rows : List Rw} {t : Int} {xs ds : List PyData} (h : EvS te Γ (.ab (TreeP ks one rows))) (hk : KsOk ks) (hok : RowsOk rows) (ha : AudR ks one rows t xs ds) : EvS (tCall spA [] E0 (tCons te tNil)) Γ (.d (.tuple (.int t :: .list xs :: ds)) .an) := fun B H σ Q g q =>
  h B H σ _ g fun v B1 H1 st1 r1 _ => ⟨B1, ks, one, rows, v, t, xs, ds, rfl, st1.bh, r1, hk, hok, ha, fun u B2 H2 st2 box => by
    obtain ⟨B3, st3, _, r3⟩ := box_d st2 box
    exact q u B3 H2 (st1.trans st3) r3 (.no rfl)⟩
end
end TG
set_option Elab.async false
set_option linter.all false
set_option maxRecDepth 100000
set_option maxHeartbeats 8000000
/-! W39: the law. -/
namespace TG
open PySem PySem.Spec PyProof.Rows L2
variable {P : Program} {w : World} {K : KF} {mg : Str → Option Value} {base : Heap}
theorem aud_cases {f : List Int → PR} : ∀ ls : List (List Int), (∀ l ∈ ls, ∃ n, f l = .go n) ∨ ∃ (j : Nat) (l : List Int), ls[j]? = some l ∧ (∀ i < j, ∀ l, ls[i]? = some l → ∃ n, f l = .go n) ∧ ∀ n, f l ≠ .go n
  | [] => .inl fun _ h => nomatch h
  | x :: ls => by
    by_cases hx : ∃ n, f x = .go n
    · rcases aud_cases (f := f) ls with h | ⟨j, l, h1, h2, h3⟩
      · refine .inl fun l hl => ?_
        rcases List.mem_cons.mp hl with rfl | hl
        · exact hx
        · exact h l hl
      · refine .inr ⟨j + 1, l, h1, fun i hi l' hl' => ?_, h3⟩
        cases i with
        | zero => cases hl'; exact hx
        | succ i => exact h2 i (by omega) l' hl'
    · exact .inr ⟨0, x, rfl, fun i hi => absurd hi (Nat.not_lt_zero _), fun n e => hx ⟨n, e⟩⟩
theorem gd_part {k : Knd} (h : kOk k) (n : Int) : Gd 1 (partD k n) := gd_tup (n := 0) fun d hd => by
  simp only [List.mem_cons, List.not_mem_nil, or_false] at hd
  rcases hd with rfl | rfl | rfl
  · exact gd_str h.1
  · exact gd_str h.2
  · exact gd_int n
theorem gd_parts {ks : List Knd} (hk : KsOk ks) (look : List Int) : Gd 2 (.list (partsL ks look)) := gd_lst (n := 1) fun d hd => by
  unfold partsL at hd
  obtain ⟨k, hm, rfl⟩ := List.mem_map.mp hd
  have hl := List.mem_range.mp (List.mem_filter.mp hm).1
  refine gd_part (hk.ok _ ?_) _
  rw [List.getD_eq_getElem?_getD, List.getElem?_eq_getElem hl]
  exact List.getElem_mem hl
theorem gd_pL {ks : List Knd} (hk : KsOk ks) {l : List Prt} (hg : goodL ks l) : Gd 2 (.list (pL l)) := gd_lst (n := 1) fun d hd => by
  obtain ⟨p, hm, rfl⟩ := List.mem_map.mp hd
  exact gd_part (hk.ok _ (hg p hm).1) _
theorem gd_prR (r : PR) : ∀ d ∈ prR r, Gd 1 d := fun d hd => by
  cases r with
  | go n => cases hd
  | no a =>
    simp only [prR, List.mem_cons, List.not_mem_nil, or_false] at hd
    subst hd
    exact gd_N _
  | two a b c =>
    simp only [prR, List.mem_cons, List.not_mem_nil, or_false] at hd
    rcases hd with rfl | rfl | rfl <;> exact gd_N _
theorem gd_encPR {ks : List Knd} (hk : KsOk ks) (look : List Int) (r : PR) : Gd 3 (encPR ks look r) := by
  rcases xc_go (ks := ks) (look := look) r with ⟨n, rfl⟩ | ⟨x, hx⟩
  · refine gd_tup (n := 2) fun d hd => ?_
    simp only [List.mem_cons, List.not_mem_nil, or_false] at hd
    rcases hd with rfl | rfl
    · exact (gd_int _).mono (by decide)
    · exact (gd_N _).mono (by decide)
  · rw [encPR_c hx]
    refine gd_tup (n := 2) fun d hd => ?_
    rcases List.mem_cons.mp hd with rfl | hd
    · exact (gd_int _).mono (by decide)
    · rcases List.mem_cons.mp hd with rfl | hd
      · exact gd_parts hk look
      · exact (gd_prR r d hd).mono (by decide)
theorem gd_aud (ks : List Knd) (one : Bool) (rows : List Rw) (ls : List (List Int)) : Gd 3 (.list (audL' ks one rows ls)) := gd_lst (n := 2) fun d hd => by
  obtain ⟨l, _, rfl⟩ := List.mem_map.mp hd
  refine gd_tup (n := 1) fun d hd => ?_
  simp only [List.mem_cons, List.not_mem_nil, or_false] at hd
  rcases hd with rfl | rfl <;> exact gd_N _
def ThrP (ks : List Knd) (one : Bool) (rows : List Rw) (s : Sl) : Prop := ((∀ l ∈ allLooks ks.length, ∃ n, endR ks one rows l = .go n) ∧ s = .d (.tuple [.int 1, .list (audL' ks one rows (allLooks ks.length))]) .an) ∨
      ∃ (j : Nat) (l : List Int), (allLooks ks.length)[j]? = some l ∧ (∀ i < j, ∀ l, (allLooks ks.length)[i]? = some l → ∃ n, endR ks one rows l = .go n) ∧ (∀ n, endR ks one rows l ≠ .go n) ∧ s = .d (encPR ks l (endR ks one rows l)) .an
theorem thr_all {ks : List Knd} {one : Bool} {rows : List Rw} (hk : KsOk ks) (hok : RowsOk rows) : ∃ (t : Int) (xs ds : List PyData), AudR ks one rows t xs ds ∧ ThrP ks one rows (.d (.tuple (.int t :: .list xs :: ds)) .an) ∧ xs.length < 100000 ∧ Gd 5 (.tuple (.int t :: .list xs :: ds)) := by
  have he : ∀ l, headR ks one rows l = endR ks one rows l := fun l => head_eq hok l
  rcases aud_cases (f := endR ks one rows) (allLooks ks.length) with h | ⟨j, l, h1, h2, h3⟩
  · refine ⟨1, audL' ks one rows (allLooks ks.length), [], .inl ⟨fun l hl => ?_, rfl, (aud_eq hok _).symm, rfl⟩, .inl ⟨h, rfl⟩, ?_, ?_⟩
    · obtain ⟨n, hn⟩ := h l hl
      exact ⟨n, (he l).trans hn⟩
    · have := allLooks_size hk.le
      unfold audL'
      rw [List.length_map]
      omega
    · refine gd_tup (n := 4) fun d hd => ?_
      simp only [List.mem_cons, List.not_mem_nil, or_false] at hd
      rcases hd with rfl | rfl
      · exact (gd_int _).mono (by decide)
      · exact (gd_aud _ _ _ _).mono (by decide)
  · rcases xc_go (ks := ks) (look := l) (endR ks one rows l) with ⟨n, hn⟩ | ⟨x, hx⟩
    · exact absurd hn (h3 n)
    · have e := encPR_c hx
      refine ⟨prC (endR ks one rows l), partsL ks l, prR (endR ks one rows l), .inr ⟨j, l, h1, fun i hi l' hl' => ?_, ⟨x, ?_⟩, ?_, rfl, ?_⟩, .inr ⟨j, l, h1, h2, h3, ?_⟩, ?_, ?_⟩
      · obtain ⟨n, hn⟩ := h2 i hi l' hl'
        exact ⟨n, (he l').trans hn⟩
      · rw [he]; exact hx
      · rw [he]
      · rw [he]
      · rw [e]
      · have : (partsL ks l).length ≤ ks.length := by
          unfold partsL
          rw [List.length_map]
          exact Nat.le_trans (List.length_filter_le _ _) (by rw [List.length_range]; exact Nat.le_refl _)
        have := hk.le
        omega
      · rw [← e]
        exact (gd_encPR hk l _).mono (by decide)
def rowsM (ks : List Knd) (ns : List Int) : List Rw := if 0 < ns.getD 14 0 / 32 % 3 then mendR (ns.getD 14 0 / 32 % 3) (rowsG ks ns) else rowsG ks ns
def rootM (ks : List Knd) (ns : List Int) : Bool := if 0 < ns.getD 14 0 / 32 % 3 then ((rowsM ks ns).getD 0 default).one else decide (ns.getD 14 0 / 64 % 2 = 1)
theorem rowsM_ok {ks : List Knd} (hk : KsOk ks) (ns : List Int) : RowsOk (rowsM ks ns) := by
  obtain ⟨h1, h2, h3⟩ := rowsG_ok hk ns
  unfold rowsM
  split
  · exact mend_ok h1 h2 (by omega) _
  · exact h1.rows h2 (by omega)
theorem ok_law (T : Txt K mg) : FnOk P w K mg base CX0 13 872 (fdOf K 872) ["_law_script"] (spD (fun ss s => ∃ ns : List Int, ss = [.ab (Scr K ns)] ∧ s = dB true) noX) := by
  refine Fun.okD (f_law T) sc_law (fun ss s ⟨_, h, _⟩ => by rw [h]; rfl) fun cdv A outer h H E hr ss s ⟨ns, hs, hv⟩ => ?_
  have hu65 := hu65_of hr
  have hu64 : A.units + 3 + 64 < cLine := hr.units
  subst hs hv
  refine ⟨_, (pss_cons (ps_set (i := 1) sc_law.nd rfl (Or.inl rfl) (pe_call (ok_Lkinds T) (hr.mono (by decide)) rfl (g_Lkinds T) (f_Lkinds T).kp (b_Lkinds T) .nil pass0 (pa_cons (pv 0) pa_nil)))
      (pss_cons (ps_set (i := 2) sc_law.nd rfl (Or.inl rfl) (pe_call (ok_Lcellat T) (hr.mono (by decide)) rfl (g_Lcellat T) (f_Lcellat T).kp (b_Lcellat T) .nil pass0 (pa_cons (pv 0) (pa_cons pe_int pa_nil))))
      (pss_cons (ps_set (i := 3) sc_law.nd rfl (Or.inl rfl) (pe_call (ok_Lrows T) (hr.mono (by decide)) rfl (g_Lrows T) (f_Lrows T).kp (b_Lrows T) .nil pass0 (pa_cons (pv 0) (pa_cons (pv 1) pa_nil))))
      (pss_cons (ps_set (i := 4) sc_law.nd rfl (Or.inl rfl) (pe_ix ix_list (pe_lst (pa_cons pe_str (pa_cons pe_str pa_nil))) (pe_op op_mod (pe_op op_fdiv (pv 2) pe_int) pe_int) (fun _ _ => rfl)))
      (pss_cons (ps_if (pt_cmpR op_gt (pe_op op_mod (pe_op op_fdiv (pv 2) pe_int) pe_int) pe_int (nomark _)) (pss_cons (ps_set (i := 3) sc_law.nd rfl (Or.inl rfl) (pe_call (ok_Lmended T) (hr.mono (by decide)) rfl (g_Lmended T) (f_Lmended T).kp (b_Lmended T) .nil pass0 (pa_cons (pv 3) (pa_cons (pe_op op_mod (pe_op op_fdiv (pv 2) pe_int) pe_int) pa_nil))))
      (pss_one (ps_set (i := 4) sc_law.nd rfl (Or.inl rfl) (pe_ix ix_tup (pe_ix ix_list (pv 3) pe_int (fun _ _ => rfl)) pe_int (fun _ _ => rfl))))) pss_nil)
      (pss_cons (ps_set (i := 3) sc_law.nd rfl (Or.inl rfl) (pe_call (ok_Lturned T) (hr.mono (by decide)) rfl (g_Lturned T) (f_Lturned T).kp (b_Lturned T) .nil pass0 (pa_cons (pv 3) (pa_cons (pv 2) pa_nil))))
      (pss_cons (ps_set (i := 5) sc_law.nd rfl (Or.inl rfl) (pe_make (k_Tree T) (ok_Treeinit T) (hr.mono (by decide)) rfl (g_Tree T) (b_Treeinit T) .nil pass0 (pa_cons (pe_callTy call_list_of rfl (z_list T) (by decide +kernel) (pa_cons (pv 1) pa_nil)) (pa_cons (pv 4) (pa_cons (pe_callTy call_list_of rfl (z_list T) (by decide +kernel) (pa_cons (pv 3) pa_nil)) pa_nil)))))
      (pss_cons (ps_set (i := 6) sc_law.nd rfl (Or.inl rfl) (pe_call (ok_Lcounts T) (hr.mono (by decide)) rfl (g_Lcounts T) (f_Lcounts T).kp (b_Lcounts T) .nil pass0 (pa_cons (pv 3) (pa_cons (pv 1) pa_nil))))
      (pss_cons (ps_set (i := 7) sc_law.nd rfl (Or.inl rfl) (pe_call (ok_Laudit T) (hr.mono (by decide)) rfl (g_Laudit T) (f_Laudit T).kp (b_Laudit T) .nil pass0 (pa_cons (pv 5) pa_nil)))
      (pss_cons (ps_set (i := 8) sc_law.nd rfl (Or.inl rfl) (pe_call (ok_Lthrough T) (hr.mono (by decide)) rfl (g_Lthrough T) (f_Lthrough T).kp (b_Lthrough T) .nil pass0 (pa_cons (pv 3) (pa_cons (pv 1) (pa_cons (pv 4) (pa_cons (pv 6) pa_nil))))))
      (pss_cons (ps_if (PW.pt (pw_or (pt_cmpR (op_neD hu64) (pv 7) (pv 8) (nomark _)) (pw_or1 (pt_not (pt_val (pe_callB call_isi rfl (z_isinstance T) (by decide +kernel) (pa_cons (pe_ix ix_tup (pv 7) pe_int (fun _ _ => rfl)) (pa_cons (pe_ty (n := "list") rfl (z_list T) (by decide +kernel)) pa_nil)))))))) (pss_one (ps_ret pe_bl)) pss_nil)
      (pss_cons (ps_expr (pe_bm PySem.F.plainAttrs_list PySem.F.slot_list_append PySem.F.type_list_append mt_append (pe_ix ix_tup (pv 7) pe_int (fun _ _ => rfl)) (pa_cons pe_non pa_nil)))
      (pss_cons (ps_set (i := 9) sc_law.nd rfl (Or.inl rfl) (pe_call (ok_Lparts T) (hr.mono (by decide)) rfl (g_Lparts T) (f_Lparts T).kp (b_Lparts T) .nil pass0 (pa_cons (pv 0) (pa_cons (pv 1) pa_nil))))
      (pss_cons (ps_set (i := 10) sc_law.nd rfl (Or.inl rfl) (pe_call (ok_Lend T) (hr.mono (by decide)) rfl (g_Lend T) (f_Lend T).kp (b_Lend T) .nil pass0 (pa_cons (pv 3) (pa_cons (pv 1) (pa_cons (pv 4) (pa_cons (pv 6) (pa_cons (pe_call (ok_lookof T) (hr.mono (by decide)) rfl (g_lookof T) (f_lookof T).kp (b_lookof T) .nil pass0 (pa_cons (pe_call (ok_Lweighed T) (hr.mono (by decide)) rfl (g_Lweighed T) (f_Lweighed T).kp (b_Lweighed T) .nil pass0 (pa_cons (pv 1) (pa_cons (pv 9) pa_nil))) pa_nil)) pa_nil)))))))
      (pss_cons (ps_set (i := 11) sc_law.nd rfl (Or.inl rfl) (pe_callTy call_list_of rfl (z_list T) (by decide +kernel) (pa_cons (pv 9) pa_nil)))
      (pss_cons (ps_if (PW.pt (pw_or (pt_cmpR (op_neD hu64) (pe_call (ok_Lheading T) (hr.mono (by decide)) rfl (g_Lheading T) (f_Lheading T).kp (b_Lheading T) .nil pass0 (pa_cons (pv 5) (pa_cons (pv 11) pa_nil))) (pv 10) (nomark _)) (pw_or1 (pt_cmpR (op_neD hu64) (pv 11) (pv 9) (nomark _))))) (pss_one (ps_ret pe_bl)) pss_nil)
      (pss_cons (ps_set (i := 2) sc_law.nd rfl (Or.inl rfl) (pe_call (ok_Lcellat T) (hr.mono (by decide)) rfl (g_Lcellat T) (f_Lcellat T).kp (b_Lcellat T) .nil pass0 (pa_cons (pv 0) (pa_cons pe_int pa_nil))))
      (pss_cons (ps_set (i := 12) sc_law.nd rfl (Or.inl rfl) (pe_tup (pa_cons (pe_ix ix_tup (pe_ix ix_list (pv 1) pe_int (fun _ _ => rfl)) pe_int (fun _ _ => rfl)) (pa_cons (pe_ix ix_tup (pe_ix ix_list (pv 1) pe_int (fun _ _ => rfl)) pe_int (fun _ _ => rfl)) (pa_cons (pe_op op_pow pe_int pe_int) pa_nil)))))
      (pss_cons (ps_for PassesOwn.never rfl (pi_list (pe_lst (pa_cons (pe_call (ok_Lstrange T) (hr.mono (by decide)) rfl (g_Lstrange T) (f_Lstrange T).kp (b_Lstrange T) .nil pass0 (pa_cons (pv 9) (pa_cons (pv 1) (pa_cons (pv 2) pa_nil)))) (pa_cons (pe_lst pa_nil) (pa_cons (pe_callTy call_tuple_of rfl (z_tuple T) (by decide +kernel) (pa_cons (pv 9) pa_nil)) (pa_cons pe_non (pa_cons (pe_slice sl_list (pe_op op_rep (pv 9) pe_int) po_none (po_some pe_int)) (pa_cons (pe_op op_cat (pe_slice sl_list (pv 9) po_none (po_some pe_int)) (pe_lst (pa_cons (pv 12) pa_nil))) pa_nil)))))))) (pg_name (i := 13) sc_law.nd rfl (Or.inl rfl))
      (pss_one (ps_if (pt_not (pt_val (pe_call (ok_Lnogoods T) (hr.mono (by decide)) rfl (g_Lnogoods T) (f_Lnogoods T).kp (b_Lnogoods T) .nil pass0 (pa_cons (pv 5) (pa_cons (pv 13) pa_nil))))) (pss_one (ps_ret pe_bl)) pss_nil)))
      (pss_one (ps_ret (pe_and (pe_cmpR (op_eqD hu64) (pe_call (ok_Lheading T) (hr.mono (by decide)) rfl (g_Lheading T) (f_Lheading T).kp (b_Lheading T) .nil pass0 (pa_cons (pv 5) (pa_cons (pe_call (ok_Lotherwise T) (hr.mono (by decide)) rfl (g_Lotherwise T) (f_Lotherwise T).kp (b_Lotherwise T) .nil pass0 (pa_cons (pv 9) (pa_cons (pv 2) pa_nil))) pa_nil))) (pv 10) (nomark _)) (pe_one (pe_cmpR (op_eqD hu64) (pe_call (ok_Laudit T) (hr.mono (by decide)) rfl (g_Laudit T) (f_Laudit T).kp (b_Laudit T) .nil pass0 (pa_cons (pv 5) pa_nil)) (pv 8) (nomark _))))))))))))))))))))))))), fun B0 H0 => ?_⟩
  obtain ⟨ks, hks⟩ : ∃ ks, ks = kindsN ns := ⟨_, rfl⟩
  have hk : KsOk ks := hks ▸ kinds_ok ns
  have hkp := hk.pos
  have hkl := hk.le
  have cell : ∀ (Γ : Cxt) (k : Nat), Γ[0]? = some (some (.ab (Scr K ns))) → EvS (tCall (spD (fun ss s => ∃ (ns : List Int) (k : Nat), ss = [.ab (Scr K ns), dI (k : Int)] ∧ s = dI (ns.getD k 0)) noX) [] E0 (tCons (tVar 0) (tCons (tC (.int (k : Int))) tNil))) Γ (dI (ns.getD k 0)) := fun Γ k h0 => ev_call (ea_cons (ev_var h0) (ea_cons ev_int ea_nil)) ⟨ns, k, rfl, rfl⟩
  refine ws_seq (ws_asg (s := dL (ksL ks)) (ev_fz (ev_call (ea_cons (ev_var rfl) ea_nil) ⟨ns, rfl, by rw [hks]⟩)) ?_)
  obtain ⟨c, hc⟩ : ∃ c, c = ns.getD 14 0 := ⟨_, rfl⟩
  refine ws_seq (ws_asg (s := dI c) ((cell _ 14 rfl).is (by rw [hc])) ?_)
  obtain ⟨R0, hR0⟩ : ∃ R, R = rowsG ks ns := ⟨_, rfl⟩
  obtain ⟨hRI, hRp, hR8⟩ := rowsG_ok hk ns
  rw [← hR0] at hRI hRp hR8
  refine ws_seq (ws_asg (s := dL (rwL R0)) (ev_fz (ev_call (ea_cons (ev_var rfl) (ea_cons (ev_var rfl) ea_nil)) ⟨ns, ks, rfl, hk, by rw [hR0]⟩)) ?_)
  have h2 := md_lt (a := c / 64) (n := 2) (by decide)
  have hroot : atI [PyData.str "near", .str "one"] (c / 64 % 2) = some (.str (ruleS (decide (c / 64 % 2 = 1)))) := by
    have : c / 64 % 2 = 0 ∨ c / 64 % 2 = 1 := by omega
    rcases this with h | h <;> rw [h] <;> rfl
  refine ws_seq (ws_asg (s := dS (ruleS (decide (c / 64 % 2 = 1)))) (ev_ixL (κ := .pl) (ds := [.str "near", .str "one"]) (ev_fz (ev_lst (κ := .pl) (ds := [.str "near", .str "one"]) (ea_cons ev_str (ea_cons ev_str ea_nil)) (by simp))) (ev_mod (ev_fdiv (ev_var rfl) ev_int ⟨by decide, by decide⟩) ev_int (by decide)) hroot) ?_)
  obtain ⟨R1, hR1⟩ : ∃ R, R = rowsM ks ns := ⟨_, rfl⟩
  obtain ⟨one, hone⟩ : ∃ o, o = rootM ks ns := ⟨_, rfl⟩
  have hok1 : RowsOk R1 := hR1 ▸ rowsM_ok hk ns
  have h3 := md_lt (a := c / 32) (n := 3) (by decide)
  refine ws_seq (ws_mono (E := { nx := fun Γ' => Γ' = [some (.ab (Scr K ns)), some (dL (ksL ks)), some (dI c), some (dL (rwL R1)), some (dS (ruleS one)), none, none, none, none, none, none, none, none, none], rt := fun _ => False }) (ws_if (b := decide (0 < c / 32 % 3)) (et_test (ev_gt (ev_mod (ev_fdiv (ev_var rfl) ev_int ⟨by decide, by decide⟩) ev_int (by decide)) ev_int)) (fun hb => ?_) fun hb => ws_next ?_) ?_ (fun _ h => h.elim) (fun _ h => h.elim) fun _ h => h.elim)
  · have hb' := of_decide_eq_true hb
    have e1 : R1 = mendR (c / 32 % 3) R0 := by rw [hR1, hR0, hc]; exact if_pos (hc ▸ hb')
    have e2 : one = (R1.getD 0 default).one := by rw [hone, hR1]; exact if_pos (hc ▸ hb')
    refine ws_seq (ws_asg (s := dL (rwL R1)) (ev_fz (ev_call (ea_cons (ev_var rfl) (ea_cons (ev_mod (ev_fdiv (ev_var rfl) ev_int ⟨by decide, by decide⟩) ev_int (by decide)) ea_nil)) ⟨R0, c / 32 % 3, rfl, by omega, by omega, by rw [e1]⟩)) ?_)
    refine ws_asg (s := dS (ruleS one)) ((row_one (r := R1.getD 0 default) (ev_ixL (κ := .pl) (ds := rwL R1) (ev_var rfl) ev_int (atI_nat (k := 0) (rw_at hok1.pos)))).is (by rw [e2])) rfl
  · have hb' := of_decide_eq_false hb
    have e1 : R1 = R0 := by rw [hR1, hR0]; exact if_neg (hc ▸ hb')
    have e2 : one = decide (c / 64 % 2 = 1) := by rw [hone, hc]; exact if_neg (hc ▸ hb')
    rw [e1, e2]
    rfl
  rintro Γ' rfl
  obtain ⟨rows, hrows⟩ : ∃ R, R = turnR R1 c := ⟨_, rfl⟩
  have hok : RowsOk rows := hrows ▸ hok1.perm (turn_perm R1 c)
  refine ws_seq (ws_asg (s := dL (rwL rows)) (ev_fz (ev_call (ea_cons (ev_var rfl) (ea_cons (ev_var rfl) ea_nil)) ⟨R1, c, rfl, hok1.pos, Nat.le_trans hok1.le (by decide), by rw [hrows]⟩)) ?_)
  refine ws_seq (ws_asg (s := .ab (TreeP ks one rows)) (ev_tree (ea_cons (ev_fz (ev_listL (ev_var rfl))) (ea_cons (ev_var rfl) (ea_cons (ev_fz (ev_listL (ev_var rfl))) ea_nil))) hk hok) ?_)
  refine ws_seq (ws_asg (ev_call (ea_cons (ev_var rfl) (ea_cons (ev_var rfl) ea_nil)) ⟨rows, ks, rfl, hok, hk, rfl⟩) ?_)
  refine ws_dfreeze (i := 6) (kvs := countE ks rows) rfl ?_
  obtain ⟨t, xs, ds, hau, hth, hxl, hgd⟩ := thr_all (one := one) hk hok
  have sh : SeqAt.shaped (.tuple (.int t :: .list xs :: ds)) = true := hgd.shaped (by decide)
  have eqD : PyData.eqv (.tuple (.int t :: .list xs :: ds)) (.tuple (.int t :: .list xs :: ds)) = true := PySem.SeqAt.eqv_refl _ hgd.1
  refine ws_found rfl (noB_ok rfl) rfl (by show 8 < 14; decide) hk hok hau hxl (ev_call (ea_cons (ev_var rfl) (ea_cons (ev_var rfl) (ea_cons (ev_var rfl) (ea_cons (ev_var rfl) ea_nil)))) ⟨rows, ks, one, rfl, hok, hk, hth⟩) ?_ ?_
  · exact et_orF ((et_test (ev_neD (κ := .an) (κ' := .an) (ev_var rfl) (ev_var rfl) sh sh)).is (by rw [eqD]; rfl)) (et_notT (et_valT (ev_isLstD (κ := .an) (x := .list xs) (ev_ixT (ds := .int t :: .list xs :: ds) (ev_var rfl) ev_int (atI_nat (k := 1) rfl)))))
  obtain ⟨l, hl⟩ : ∃ l, l = partsP ks ns := ⟨_, rfl⟩
  have hg : goodL ks l := hl ▸ parts_good hkp ns
  obtain ⟨hl1, hl39⟩ : 1 ≤ l.length ∧ l.length ≤ 39 := hl ▸ parts_len ks ns
  obtain ⟨ht1, ht2⟩ : 1 ≤ totL l ∧ totL l ≤ 1000000000000000 := hl ▸ parts_tot ks ns
  have hsum : (wgt ks l).sum ≤ 1000000000000000 := by rw [wgt_sum fun p hp => (hg p hp).1]; exact ht2
  refine ws_seq (ws_asg (s := dL (pL l)) (ev_fz (ev_call (ea_cons (ev_var rfl) (ea_cons (ev_var rfl) ea_nil)) ⟨ns, ks, rfl, hkp, by rw [hl]⟩)) ?_)
  obtain ⟨L, hL⟩ : ∃ L, L = lookOf (wgt ks l) := ⟨_, rfl⟩
  have hLl : L.length = ks.length := by rw [hL, look_len, wgt_len]
  refine ws_seq (ws_asg (s := .d (encPR ks L (endR ks one rows L))) (ev_call (ea_cons (ev_var rfl) (ea_cons (ev_var rfl) (ea_cons (ev_var rfl) (ea_cons (ev_var rfl) (ea_cons (ev_call (s := .d (encN L) .fz) (ea_cons (ev_fz (ev_call (ea_cons (ev_var rfl) (ea_cons (ev_var rfl) ea_nil)) ⟨ks, l, rfl, hk, hg, rfl⟩)) ea_nil) ⟨.pl, wgt ks l, .inl rfl, by rw [wgt_len]; omega, by rw [hL]⟩) ea_nil))))) ⟨rows, ks, one, L, rfl, hok, hk, hLl, rfl⟩) ?_)
  refine ws_seq (ws_asg (s := dL (pL l)) (ev_fz (ev_listL (ev_var rfl))) ?_)
  have he : headR ks one rows L = endR ks one rows L := head_eq hok L
  have shp : SeqAt.shaped (encPR ks L (endR ks one rows L)) = true := (gd_encPR hk L _).shaped (by decide)
  have eqP : PyData.eqv (encPR ks L (endR ks one rows L)) (encPR ks L (endR ks one rows L)) = true := PySem.SeqAt.eqv_refl _ (gd_encPR hk L _).1
  have shl : SeqAt.shaped (.list (pL l)) = true := (gd_pL hk hg).shaped (by decide)
  have eqL : PyData.eqv (.list (pL l)) (.list (pL l)) = true := PySem.SeqAt.eqv_refl _ (gd_pL hk hg).1
  refine ws_seq (ws_if (b := false) (et_orF ((et_test (ev_neD (κ := .an) (κ' := .pl) (x := encPR ks L (endR ks one rows L)) (y := encPR ks L (endR ks one rows L)) (ev_call (ea_cons (ev_var rfl) (ea_cons (ev_var rfl) ea_nil)) ⟨ks, one, rows, l, rfl, hk, hok, hg, hl1, by omega, hsum, by rw [← hL, he]⟩) (ev_var rfl) shp shp)).is (by rw [eqP]; rfl)) ((et_test (ev_neD (κ := .pl) (κ' := .pl) (ev_var rfl) (ev_var rfl) shl shl)).is (by rw [eqL]; rfl))) (fun h => by cases h) fun _ => ws_next ?_)
  obtain ⟨c2, hc2⟩ : ∃ c, c = ns.getD 13 0 := ⟨_, rfl⟩
  refine ws_seq (ws_asg (s := dI c2) ((cell _ 13 rfl).is (by rw [hc2])) ?_)
  obtain ⟨k0, hk0⟩ : ∃ k, k = ks.getD 0 ("", "") := ⟨_, rfl⟩
  have hat : atI (ksL ks) 0 = some (kD k0) := by rw [hk0]; exact atI_nat (k := 0) (ks_get hkp)
  refine ws_seq (ws_asg (s := .d (partD k0 1000000000000000)) (ev_tup (κ := .pl) (ds := [.str k0.1, .str k0.2, .int 1000000000000000]) (ea_cons (ev_ixT (ds := [.str k0.1, .str k0.2]) (ev_ixL (κ := .pl) (ds := ksL ks) (ev_var rfl) ev_int hat) ev_int rfl) (ea_cons (ev_ixT (ds := [.str k0.1, .str k0.2]) (ev_ixL (κ := .pl) (ds := ksL ks) (ev_var rfl) ev_int hat) ev_int rfl) (ea_cons ((ev_pow ev_int ev_int ⟨by decide, by decide, by decide⟩).is (s' := dI 1000000000000000) (congrArg dI (by decide +kernel))) ea_nil))) (by simp)) ?_)
  obtain ⟨wr, hwr⟩ : ∃ wr : List PyData, wr = [.list (strangeL ks l c2), .list [], .tuple (pL l), .none, .list (((List.replicate 41 (pL l)).flatten).take 41), .list ((pL l).take 39 ++ [partD k0 1000000000000000])] := ⟨_, rfl⟩
  have hbad : ∀ d ∈ wr, BadParts ks d := fun d hd => by
    rw [hwr] at hd
    simp only [List.mem_cons, List.not_mem_nil, or_false] at hd
    rcases hd with rfl | rfl | rfl | rfl | rfl | rfl
    · exact strange_parts hk hg hl39 c2
    · exact .many (.inl rfl)
    · exact .tup _
    · exact .non
    · exact many_parts hl1
    · rw [hk0]; exact heavy_parts hk hg hl39 ht1
  have hpl : (pL l).length = l.length := pL_len l
  refine ws_seq (ws_forL (κ := .pl) (ds := wr) (f := fun x Γ => Γ.set 13 (some (.d x .pl))) (ev_fz (hwr ▸ ev_lst (κ := .pl) (ds := [.list (strangeL ks l c2), .list [], .tuple (pL l), .none, .list (((List.replicate 41 (pL l)).flatten).take 41), .list ((pL l).take 39 ++ [partD k0 1000000000000000])])
      (ea_cons (ev_fz (ev_call (ea_cons (ev_var rfl) (ea_cons (ev_var rfl) (ea_cons (ev_var rfl) ea_nil))) ⟨l, ks, c2, rfl, hk, rfl⟩))
      (ea_cons (ev_fz (ev_lst (ds := []) (κ := .pl) ea_nil (by decide)))
      (ea_cons (ev_tupL (ev_var rfl))
      (ea_cons ev_non
      (ea_cons (ev_fz ((ev_slL (κ := .pl) (ds := (List.replicate 41 (pL l)).flatten) (ev_fz (ev_repL (a := pL l) (k := 41) (ev_var rfl) ev_int (by decide) (by rw [hpl]; show l.length * 41 ≤ 100000; omega))) eo_none (eo_some (ev_int (i := ((41 : Nat) : Int))))).is (by rw [cut_to])))
      (ea_cons (ev_fz (ev_catL (a := (pL l).take 39) (b := [partD k0 1000000000000000]) (ev_fz ((ev_slL (κ := .pl) (ds := pL l) (ev_var rfl) eo_none (eo_some (ev_int (i := ((39 : Nat) : Int))))).is (by rw [cut_to]))) (ev_fz (ev_lst (κ := .pl) (ds := [partD k0 1000000000000000]) (ea_cons (ev_var rfl) ea_nil) (by simp))) (by rw [List.length_take]; show _ + 1 ≤ 100000; omega)))
      ea_nil)))))) (by simp))) (fun x _ => tg_name)
    (fun i Γ' => ∃ o, Γ' = [some (.ab (Scr K ns)), some (dL (ksL ks)), some (dI c2), some (dL (rwL rows)), some (dS (ruleS one)), some (.ab (TreeP ks one rows)), some (.ab (DicP (countE ks rows))), none, some (.d (.tuple (.int t :: .list xs :: ds)) .an), some (dL (pL l)), some (.d (encPR ks L (endR ks one rows L))), some (dL (pL l)), some (.d (partD k0 1000000000000000)), o]) ⟨none, rfl⟩ ?_ ?_)
  · rintro i x Γ' hx ⟨o, rfl⟩
    refine ws_if (b := false) (et_notT (et_valT (ev_call (ea_cons (ev_var rfl) (ea_cons (ev_var rfl) ea_nil)) ⟨ks, one, rows, x, rfl, hk, hok, hbad x (List.mem_of_getElem? hx), rfl⟩))) (fun h => by cases h) fun _ => ws_next ⟨_, rfl⟩
  · rintro Γ' ⟨o, rfl⟩
    obtain ⟨_, hb1, _, _⟩ := by_rng ht1 ht2 c2
    obtain ⟨ho1, ho2⟩ := other_len hl1 c2
    have hgo := other_mem (cell := c2) hl1 hb1 hg
    have hso := other_sum (cell := c2) hl1 hg ht1 ht2
    have hLo : lookOf (wgt ks (otherL l c2)) = L := by rw [look_other hl1 hb1 hg, hL]
    refine ws_ret ((ev_andV (a := true) (b := true) ((ev_eqD (κ := .an) (κ' := .pl) (x := encPR ks L (endR ks one rows L)) (y := encPR ks L (endR ks one rows L)) (ev_call (ea_cons (ev_var rfl) (ea_cons (ev_fz (ev_call (ea_cons (ev_var rfl) (ea_cons (ev_var rfl) ea_nil)) ⟨l, c2, rfl, hl1, by omega, ht1, ht2, rfl⟩)) ea_nil)) ⟨ks, one, rows, otherL l c2, rfl, hk, hok, hgo, ho1, by omega, hso, by rw [hLo, he]⟩) (ev_var rfl) shp shp).is (by rw [eqP])) fun _ => (ev_eqD (κ := .an) (κ' := .an) (ev_audit (ev_var rfl) hk hok hau) (ev_var rfl) sh sh).is (by rw [eqD])).is rfl) rfl
end TG
set_option Elab.async false
set_option linter.all false
set_option maxRecDepth 100000
set_option maxHeartbeats 8000000
/-! W40: the end. -/
namespace TG
open PySem PySem.Spec PyProof.Rows L2
theorem b_lawA {K : KF} {mg : Str → Option Value} (T : Txt K mg) (s : Shared) (u : Value) : BindsTo s (fdOf K 872) ⟨[u], []⟩ [("_law_script", u)] := by
  obtain ⟨oc, od, kV, doc, pm, an, cdv, ct, osl, e, lk, hcd⟩ := (f_law T).ex
  rw [e]
  exact .of_eq rfl
theorem sp_law {K : KF} {H : Hp} {a : Addr} {ns : List Int} (h : SqL K H a (ns.map V.int)) : spD (fun ss s => ∃ ns : List Int, ss = [.ab (Scr K ns)] ∧ s = dB true) noX [.ref a] H (fun v _ => v = .bl true) fun _ _ _ => False :=
  ⟨H, [.ab (Scr K ns)], .rfl, .cons ⟨Ab.of ⟨a, rfl, h⟩, rfl⟩ .nil, .inl ⟨dB true, ⟨ns, rfl, rfl⟩, fun z B' H' st r f => RpK.bl_inv r⟩⟩
end TG
open PySem PySem.W PySem.Calls PyProof.Rows
theorem PySem.Challenge.cw_tariffgate_k47_whole_one_heading_each_holds : PySem.Challenge.rw_tariffgate_k47_whole_one_heading_each.Holds := by
  w_on; o_law
  refine HandSHeadRun.head_any (r := TG.RR) (q := view TG.RR.prog [92]) (H := TG.hkX) (ob := TG.obS) (M := 9000) (loose := TG.nms) (d := HandSHeadRun.topDef TG.RR.prog 92) (kwd := []) TG.obS_eq
    (by kernel_rfl) (fun s => by kernel_rfl) TG.run (by kernel_rfl) (by kernel_rfl) (by kernel_rfl) (by rfl) (by first | assumption | decide +kernel) (by decide +kernel) ⟨rfl, rfl, rfl, rfl, rfl, by decide +kernel⟩ ?hw ?hc
  case hw => w_witness2
  case hc =>
    refine L2.walk_ofE (l := PySem.Challenge.rw_tariffgate_k47_whole_one_heading_each) (n := 63) (k := 13) (x := "_law_script") (CX := L2.CX0) rfl (by decide) (by kernel_rfl) ⟨rfl, by decide, by decide⟩ ?F (fun _ _ _ _ z => z)
    intro w mg fa h Y G hmg0
    obtain ⟨K, KX, c⟩ := Y
    have hmg : mg ("law" : PySem.Str) = some (.ref fa) := by
      have e : (HandSHeadRun.topDef TG.RR.prog 92).name = ("law" : PySem.Str) := by kernel_rfl
      rw [← e]
      exact hmg0
    have T : TG.Txt K mg := TG.Txt.of KX G c
    have ea := hmg.symm.trans (TG.g_law T)
    cases ea
    exact ⟨K, TG.fdOf K 872, _, KX, TG.b_lawA T, fun H a ns _ _ hS => TG.sp_law hS, fun base _ _ => TG.ok_law T⟩
