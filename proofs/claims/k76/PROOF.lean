import PyProof.Rows.All
import Wide.All
import OpenK.AllK
import Wide.FinOn
import HandS.ForMost
import HandS.ForExc
import HandS.DictComp
import HandS.TupLen
import HandS.Zip
import KE.KDictKeyed
import KE.GoesMore
import KE.KDictSum
import HandS.Conv
import HandS.Sort
import KE.KDictPairs
import KE.KEqDict
import HandS.IsInst
import HandS.TupAny
import HandS.TupMul
import HandS.Wide
import HandS.Deep
import HandS.DictTup
import HandS.Flow
import HandS.Defaults
import PyProof.Rows.RuleIs
import KE.KStateDown
import HandS.Head0
import HandS.Head1
import HandS.Head2
import HandS.HeadEnd
import HandS.HeadHook1
import HandS.HeadHook2
import PySem.Challenge.RW_unitgrids_k76_whole_grids_all_of_whose_p
set_option Elab.async false
set_option linter.all false
set_option maxRecDepth 100000
namespace Y
open PySem L2

/-! ### data -/
inductive D where
  | non | bl (b : Bool) | int (i : Int) | str (s : Str) | raw (v : V)
  | tup (xs : List D) | lst (xs : List D)
  | dic (ks : List (List Key)) (vs : List D)
  | dik (ks : List Key) (vs : List D)
  | ins (C : Addr) (ns : List Str) (vs : List D)
inductive O where
  | s (d : D)
  | h (v : V)
  | l (xs : List O)
  | d (ks : List (List Key)) (vs : List O)
  | dk (ks : List Key) (vs : List O)
  | i (C : Addr) (ns : List Str) (vs : List O)
  | kd (ob : Obj) (us : List V) (ks : List (List Key)) (vs : List O)

/-- what may be read stays so -/
structure ExR (F H : Hp) : Prop where
  rd : ∀ a u, Rd F a u → Rd H a u
  tp : ∀ a xs, F a = some (.tup xs) → H a = some (.tup xs)
  ins : ∀ a C dx fs, F a = some (.ins C dx fs) → H a = some (.ins C dx fs)
theorem ExR.refl (F : Hp) : ExR F F := ⟨fun _ _ h => h, fun _ _ h => h, fun _ _ _ _ h => h⟩
theorem ExR.trans {F G H : Hp} (a : ExR F G) (b : ExR G H) : ExR F H := ⟨fun x u h => b.rd x u (a.rd x u h), fun x u h => b.tp x u (a.tp x u h), fun _ _ _ _ h => b.ins _ _ _ _ (a.ins _ _ _ _ h)⟩
theorem ExR.sqL {K : PySem.W.Frag} {F H : Hp} (e : ExR F H) {a : Addr} {xs : List V} (h : SqL K F a xs) : SqL K H a xs := by
  rcases h with h | h
  · exact .inl (e.rd _ _ h)
  · exact .inr h
theorem ExR.sqT {K : PySem.W.Frag} {F H : Hp} (e : ExR F H) {a : Addr} {xs : List V} (h : SqT K F a xs) : SqT K H a xs := by
  rcases h with h | h
  · exact .inl (e.rd _ _ h)
  · exact .inr h
theorem rd_some {F : Hp} {a : Addr} {u : HO} (h : Rd F a u) : F a ≠ none := by
  rcases h with h | ⟨o, h⟩ <;> rw [h] <;> exact fun z => nomatch z
theorem ExR.has {F H : Hp} (e : ExR F H) {a : Addr} (h : F a ≠ none) : H a ≠ none := by
  cases q : F a with
  | none => exact absurd q h
  | some u => exact rd_some (e.rd a u (.inl q))
/-- equal wherever F knows something -/
theorem ExR.same {F H : Hp} (h : ∀ a u, F a = some u → H a = some u) : ExR F H := ⟨fun a u r => by
  rcases r with r | ⟨o, r⟩
  · exact .inl (h _ _ r)
  · exact .inr ⟨o, h _ _ r⟩, fun _ _ r => h _ _ r, fun _ _ _ _ r => h _ _ r⟩
theorem ExR.upd {F H : Hp} (e : ExR F H) {p : Addr} {o : HO} (hp : F p = none) : ExR F (L2.upd H p o) := by
  have ne : ∀ a, F a ≠ none → a ≠ p := fun a h z => h (by rw [z]; exact hp)
  refine ⟨fun a u r => ?_, fun a xs r => by rw [upd_ne (ne a (by rw [r]; exact fun z => nomatch z))]; exact e.tp a xs r, fun a C dx fs r => ?_⟩
  · have q := e.rd a u r
    have n := ne a (rd_some r)
    rcases q with q | ⟨o', q⟩
    · exact .inl (by rw [upd_ne n]; exact q)
    · exact .inr ⟨o', by rw [upd_ne n]; exact q⟩
  · rw [upd_ne (ne a (by rw [r]; exact fun z => nomatch z))]
    exact e.ins a C dx fs r
theorem ExR.both {F H : Hp} (e : ExR F H) {p : Addr} {o : HO} (hp : F p = none) : ExR (L2.upd F p o) (L2.upd H p o) := by
  have e2 := e.upd (o := o) hp
  refine ⟨fun a u r => ?_, fun a xs r => ?_, fun a C dx fs r => ?_⟩
  · by_cases z : a = p
    · subst z
      unfold Rd at r ⊢
      rw [upd_same] at r ⊢
      exact r
    · refine e2.rd a u ?_
      unfold Rd at r ⊢
      rw [upd_ne z] at r
      exact r
  · by_cases z : a = p
    · subst z
      rw [upd_same] at r ⊢
      exact r
    · rw [upd_ne z] at r
      exact e2.tp a xs r
  · by_cases z : a = p
    · subst z
      rw [upd_same] at r ⊢
      exact r
    · rw [upd_ne z] at r
      exact e2.ins a C dx fs r

mutual
def Rep (K : PySem.W.Frag) (F : Hp) : D → V → Prop
  | .non, v => v = .non
  | .bl b, v => v = .bl b
  | .int i, v => v = .int i
  | .str s, v => v = .str s
  | .raw w, v => v = w
  | .tup ds, v => ∃ a vs, v = .ref a ∧ F a = some (.tup vs) ∧ Reps K F ds vs
  | .lst ds, v => ∃ a vs, v = .ref a ∧ SqL K F a vs ∧ Reps K F ds vs
  | .dic ks ds, v => ∃ a vs, v = .ref a ∧ Rd F a (.dT (ks.zip vs)) ∧ ks.length = ds.length ∧ Reps K F ds vs
  | .dik ks ds, v => ∃ a vs, v = .ref a ∧ Rd F a (.dK (ks.zip vs)) ∧ ks.length = ds.length ∧ Reps K F ds vs
  | .ins C ns ds, v => ∃ a dx vs, v = .ref a ∧ F a = some (.ins C dx (ns.zip vs)) ∧ ns.length = ds.length ∧ Reps K F ds vs
def Reps (K : PySem.W.Frag) (F : Hp) : List D → List V → Prop
  | [], vs => vs = []
  | d :: ds, vs => ∃ v vs', vs = v :: vs' ∧ Rep K F d v ∧ Reps K F ds vs'
end
mutual
theorem Rep.mono {K : PySem.W.Frag} {F H : Hp} (e : ExR F H) : ∀ (d : D) (v : V), Rep K F d v → Rep K H d v
  | .non, v, h => by simpa only [Rep] using h
  | .bl b, v, h => by simpa only [Rep] using h
  | .int i, v, h => by simpa only [Rep] using h
  | .str s, v, h => by simpa only [Rep] using h
  | .raw w, v, h => by simpa only [Rep] using h
  | .tup ds, v, h => by
    simp only [Rep] at h ⊢
    obtain ⟨a, vs, h1, h2, h3⟩ := h
    exact ⟨a, vs, h1, e.tp _ _ h2, Reps.mono e ds vs h3⟩
  | .lst ds, v, h => by
    simp only [Rep] at h ⊢
    obtain ⟨a, vs, h1, h2, h3⟩ := h
    exact ⟨a, vs, h1, e.sqL h2, Reps.mono e ds vs h3⟩
  | .dic ks ds, v, h => by
    simp only [Rep] at h ⊢
    obtain ⟨a, vs, h1, h2, h4, h3⟩ := h
    exact ⟨a, vs, h1, e.rd _ _ h2, h4, Reps.mono e ds vs h3⟩
  | .dik ks ds, v, h => by
    simp only [Rep] at h ⊢
    obtain ⟨a, vs, h1, h2, h4, h3⟩ := h
    exact ⟨a, vs, h1, e.rd _ _ h2, h4, Reps.mono e ds vs h3⟩
  | .ins C ns ds, v, h => by
    simp only [Rep] at h ⊢
    obtain ⟨a, dx, vs, h1, h2, h4, h3⟩ := h
    exact ⟨a, dx, vs, h1, e.ins _ _ _ _ h2, h4, Reps.mono e ds vs h3⟩
theorem Reps.mono {K : PySem.W.Frag} {F H : Hp} (e : ExR F H) : ∀ (ds : List D) (vs : List V), Reps K F ds vs → Reps K H ds vs
  | [], vs, h => by simpa only [Reps] using h
  | d :: ds, vs, h => by
    simp only [Reps] at h ⊢
    obtain ⟨v, vs', h1, h2, h3⟩ := h
    exact ⟨v, vs', h1, Rep.mono e d v h2, Reps.mono e ds vs' h3⟩
end
section
variable {K : PySem.W.Frag} {F H : Hp}
theorem Reps.length : ∀ {ds : List D} {vs : List V}, Reps K F ds vs → ds.length = vs.length
  | [], vs, h => by simp only [Reps] at h; subst h; rfl
  | d :: ds, vs, h => by
    simp only [Reps] at h
    obtain ⟨v, vs', h1, h2, h3⟩ := h
    subst h1
    simp [Reps.length h3]
theorem Reps.get : ∀ {ds : List D} {vs : List V} {i : Nat} {d : D}, Reps K F ds vs → ds[i]? = some d → ∃ v, vs[i]? = some v ∧ Rep K F d v
  | [], vs, i, d, h, e => by simp at e
  | d0 :: ds, vs, 0, d, h, e => by
    simp only [Reps] at h
    obtain ⟨v, vs', h1, h2, h3⟩ := h
    simp at e
    subst h1 e
    exact ⟨v, rfl, h2⟩
  | d0 :: ds, vs, i + 1, d, h, e => by
    simp only [Reps] at h
    obtain ⟨v, vs', h1, h2, h3⟩ := h
    simp at e
    subst h1
    obtain ⟨v', h4, h5⟩ := Reps.get h3 e
    exact ⟨v', by simpa using h4, h5⟩
theorem Reps.getV {ds : List D} {vs : List V} {i : Nat} {v : V} (h : Reps K F ds vs) (e : vs[i]? = some v) : ∃ d, ds[i]? = some d ∧ Rep K F d v := by
  have hl := h.length
  obtain ⟨hi, _⟩ := List.getElem?_eq_some_iff.mp e
  have hd : ds[i]? = some (ds[i]'(by omega)) := List.getElem?_eq_getElem _
  obtain ⟨v', e', r⟩ := h.get hd
  rw [e] at e'
  cases e'
  exact ⟨_, hd, r⟩
theorem Reps.append : ∀ {ds es : List D} {vs us : List V}, Reps K F ds vs → Reps K F es us → Reps K F (ds ++ es) (vs ++ us)
  | [], es, vs, us, h, g => by simp only [Reps] at h; subst h; exact g
  | d :: ds, es, vs, us, h, g => by
    simp only [Reps] at h
    obtain ⟨v, vs', h1, h2, h3⟩ := h
    subst h1
    simp only [List.cons_append, Reps]
    exact ⟨v, _, rfl, h2, Reps.append h3 g⟩
theorem Reps.take : ∀ (n : Nat) {ds : List D} {vs : List V}, Reps K F ds vs → Reps K F (ds.take n) (vs.take n)
  | 0, ds, vs, h => by simp [Reps]
  | n + 1, [], vs, h => by simp only [Reps] at h; subst h; simp [Reps]
  | n + 1, d :: ds, vs, h => by
    simp only [Reps] at h
    obtain ⟨v, vs', h1, h2, h3⟩ := h
    subst h1
    simp only [List.take_succ_cons, Reps]
    exact ⟨v, _, rfl, h2, Reps.take n h3⟩
theorem Reps.drop : ∀ (n : Nat) {ds : List D} {vs : List V}, Reps K F ds vs → Reps K F (ds.drop n) (vs.drop n)
  | 0, ds, vs, h => by simpa using h
  | n + 1, [], vs, h => by simp only [Reps] at h; subst h; simp [Reps]
  | n + 1, d :: ds, vs, h => by
    simp only [Reps] at h
    obtain ⟨v, vs', h1, h2, h3⟩ := h
    subst h1
    simpa using Reps.drop n h3
theorem Reps.one {d : D} {v : V} (h : Rep K F d v) : Reps K F [d] [v] := by simp only [Reps]; exact ⟨v, [], rfl, h, rfl⟩
theorem Reps.cons {d : D} {v : V} {ds : List D} {vs : List V} (h : Rep K F d v) (hs : Reps K F ds vs) : Reps K F (d :: ds) (v :: vs) := by simp only [Reps]; exact ⟨v, vs, rfl, h, hs⟩
theorem Reps.nil : Reps K F [] [] := by simp only [Reps]
theorem Reps.rep {ds : List D} {vs : List V} (h : Reps K F ds vs) : ∀ n, Reps K F (List.replicate n ds).flatten (List.replicate n vs).flatten
  | 0 => by simp [Reps]
  | n + 1 => by simpa [List.replicate_succ] using h.append (Reps.rep h n)
end

/-! ### owned trees: A is where they may lie -/
mutual
def Own (K : PySem.W.Frag) (F H : Hp) : O → V → (Addr → Prop) → Prop
  | .s d, v, A => Rep K F d v
  | .h w, v, A => v = w
  | .l os, v, A => ∃ a vs, v = .ref a ∧ A a ∧ F a = none ∧ H a = some (.lst vs) ∧ Owns K F H os vs (fun x => A x ∧ x ≠ a)
  | .d ks os, v, A => ∃ a vs, v = .ref a ∧ A a ∧ F a = none ∧ H a = some (.dT (ks.zip vs)) ∧ ks.length = os.length ∧ Owns K F H os vs (fun x => A x ∧ x ≠ a)
  | .dk ks os, v, A => ∃ a vs, v = .ref a ∧ A a ∧ F a = none ∧ H a = some (.dK (ks.zip vs)) ∧ ks.length = os.length ∧ Owns K F H os vs (fun x => A x ∧ x ≠ a)
  | .i C ns os, v, A => ∃ a dx vs, v = .ref a ∧ A a ∧ F a = none ∧ H a = some (.ins C dx (ns.zip vs)) ∧ ns.length = os.length ∧ Owns K F H os vs (fun x => A x ∧ x ≠ a)
  | .kd ob us ks os, v, A => ∃ a, v = .ref a ∧ A a ∧ F a = none ∧ H a = some (.frz ob (.dT (ks.zip us))) ∧ ks.length = os.length ∧ Owns K F H os us (fun x => A x ∧ x ≠ a)
def Owns (K : PySem.W.Frag) (F H : Hp) : List O → List V → (Addr → Prop) → Prop
  | [], vs, A => vs = []
  | o :: os, vs, A => ∃ (v : V) (vs' : List V) (B : Addr → Prop), vs = v :: vs' ∧ Own K F H o v (fun x => A x ∧ B x) ∧ Owns K F H os vs' (fun x => A x ∧ ¬ B x)
end
/-- THE FRAME: what a tree leans on stays -/
def Fr (F H : Hp) (A : Addr → Prop) (F' H' : Hp) (A' : Addr → Prop) : Prop := ∀ a u, A a → F a = none → H a = some u → A' a ∧ F' a = none ∧ H' a = some u
theorem Fr.sub {F H F' H' : Hp} {A A' B : Addr → Prop} (f : Fr F H A F' H' A') : Fr F H (fun x => A x ∧ B x) F' H' (fun x => A' x ∧ B x) :=
  fun a u ha hf hh => let ⟨h1, h2, h3⟩ := f a u ha.1 hf hh; ⟨⟨h1, ha.2⟩, h2, h3⟩
mutual
theorem Own.frame {K : PySem.W.Frag} {F H F' H' : Hp} (e : ExR F F') : ∀ (o : O) (v : V) (A A' : Addr → Prop), Fr F H A F' H' A' → Own K F H o v A → Own K F' H' o v A'
  | .s d, v, A, A', f, h => by simp only [Own] at h ⊢; exact h.mono e
  | .h w, v, A, A', f, h => by simpa only [Own] using h
  | .l os, v, A, A', f, h => by
    simp only [Own] at h ⊢
    obtain ⟨a, vs, h1, h2, h3, h4, h5⟩ := h
    obtain ⟨g1, g2, g3⟩ := f a _ h2 h3 h4
    exact ⟨a, vs, h1, g1, g2, g3, Owns.frame e os vs _ _ f.sub h5⟩
  | .d ks os, v, A, A', f, h => by
    simp only [Own] at h ⊢
    obtain ⟨a, vs, h1, h2, h3, h4, h6, h5⟩ := h
    obtain ⟨g1, g2, g3⟩ := f a _ h2 h3 h4
    exact ⟨a, vs, h1, g1, g2, g3, h6, Owns.frame e os vs _ _ f.sub h5⟩
  | .dk ks os, v, A, A', f, h => by
    simp only [Own] at h ⊢
    obtain ⟨a, vs, h1, h2, h3, h4, h6, h5⟩ := h
    obtain ⟨g1, g2, g3⟩ := f a _ h2 h3 h4
    exact ⟨a, vs, h1, g1, g2, g3, h6, Owns.frame e os vs _ _ f.sub h5⟩
  | .i C ns os, v, A, A', f, h => by
    simp only [Own] at h ⊢
    obtain ⟨a, dx, vs, h1, h2, h3, h4, h6, h5⟩ := h
    obtain ⟨g1, g2, g3⟩ := f a _ h2 h3 h4
    exact ⟨a, dx, vs, h1, g1, g2, g3, h6, Owns.frame e os vs _ _ f.sub h5⟩
  | .kd ob us ks os, v, A, A', f, h => by
    simp only [Own] at h ⊢
    obtain ⟨a, h1, h2, h3, h4, h6, h5⟩ := h
    obtain ⟨g1, g2, g3⟩ := f a _ h2 h3 h4
    exact ⟨a, h1, g1, g2, g3, h6, Owns.frame e os us _ _ f.sub h5⟩
theorem Owns.frame {K : PySem.W.Frag} {F H F' H' : Hp} (e : ExR F F') : ∀ (os : List O) (vs : List V) (A A' : Addr → Prop), Fr F H A F' H' A' → Owns K F H os vs A → Owns K F' H' os vs A'
  | [], vs, A, A', f, h => by simpa only [Owns] using h
  | o :: os, vs, A, A', f, h => by
    simp only [Owns] at h ⊢
    obtain ⟨v, vs', B, h1, h2, h3⟩ := h
    exact ⟨v, vs', B, h1, Own.frame e o v _ _ f.sub h2, Owns.frame e os vs' _ _ f.sub h3⟩
end
/-! frozen -/
mutual
def O.fz : O → D
  | .s z => z
  | .h z => .raw z
  | .l os => .lst (O.fzs os)
  | .d ks os => .dic ks (O.fzs os)
  | .dk ks os => .dik ks (O.fzs os)
  | .i C ns os => .ins C ns (O.fzs os)
  | .kd _ _ ks os => .dic ks (O.fzs os)
def O.fzs : List O → List D
  | [] => []
  | o :: os => o.fz :: O.fzs os
end
theorem O.fzs_length : ∀ os : List O, (O.fzs os).length = os.length
  | [] => by simp [O.fzs]
  | o :: os => by simp [O.fzs, O.fzs_length os]
theorem fzs_map (ds : List D) : O.fzs (ds.map O.s) = ds := by
  induction ds with
  | nil => simp [O.fzs]
  | cons d ds ih => simp [O.fzs, O.fz, ih]
mutual
theorem Own.frz {K : PySem.W.Frag} {F H F' : Hp} (e : ExR F F') : ∀ (o : O) (v : V) (A : Addr → Prop), (∀ a u, A a → F a = none → H a = some u → F' a = some u) → Own K F H o v A → Rep K F' o.fz v
  | .s d, v, A, f, h => by simp only [Own] at h; simp only [O.fz]; exact h.mono e
  | .h w, v, A, f, h => by simpa only [Own, O.fz, Rep] using h
  | .l os, v, A, f, h => by
    simp only [Own] at h
    obtain ⟨a, vs, h1, h2, h3, h4, h5⟩ := h
    simp only [O.fz, Rep]
    exact ⟨a, vs, h1, .inl (.inl (f a _ h2 h3 h4)), Owns.frz e os vs _ (fun b u hb => f b u hb.1) h5⟩
  | .d ks os, v, A, f, h => by
    simp only [Own] at h
    obtain ⟨a, vs, h1, h2, h3, h4, h6, h5⟩ := h
    simp only [O.fz, Rep]
    exact ⟨a, vs, h1, .inl (f a _ h2 h3 h4), by rw [O.fzs_length]; exact h6, Owns.frz e os vs _ (fun b u hb => f b u hb.1) h5⟩
  | .dk ks os, v, A, f, h => by
    simp only [Own] at h
    obtain ⟨a, vs, h1, h2, h3, h4, h6, h5⟩ := h
    simp only [O.fz, Rep]
    exact ⟨a, vs, h1, .inl (f a _ h2 h3 h4), by rw [O.fzs_length]; exact h6, Owns.frz e os vs _ (fun b u hb => f b u hb.1) h5⟩
  | .i C ns os, v, A, f, h => by
    simp only [Own] at h
    obtain ⟨a, dx, vs, h1, h2, h3, h4, h6, h5⟩ := h
    simp only [O.fz, Rep]
    exact ⟨a, dx, vs, h1, f a _ h2 h3 h4, by rw [O.fzs_length]; exact h6, Owns.frz e os vs _ (fun b u hb => f b u hb.1) h5⟩
  | .kd ob us ks os, v, A, f, h => by
    simp only [Own] at h
    obtain ⟨a, h1, h2, h3, h4, h6, h5⟩ := h
    simp only [O.fz, Rep]
    exact ⟨a, us, h1, .inr ⟨ob, f a _ h2 h3 h4⟩, by rw [O.fzs_length]; exact h6, Owns.frz e os us _ (fun b u hb => f b u hb.1) h5⟩
theorem Owns.frz {K : PySem.W.Frag} {F H F' : Hp} (e : ExR F F') : ∀ (os : List O) (vs : List V) (A : Addr → Prop), (∀ a u, A a → F a = none → H a = some u → F' a = some u) → Owns K F H os vs A → Reps K F' (O.fzs os) vs
  | [], vs, A, f, h => by simp only [Owns] at h; subst h; simp only [O.fzs, Reps]
  | o :: os, vs, A, f, h => by
    simp only [Owns] at h
    obtain ⟨v, vs', B, h1, h2, h3⟩ := h
    simp only [O.fzs, Reps]
    exact ⟨v, vs', h1, Own.frz e o v _ (fun b u hb => f b u hb.1) h2, Owns.frz e os vs' _ (fun b u hb => f b u hb.1) h3⟩
end
end Y
namespace Y
open PySem L2

/-! ### what a pure step leaves -/
/-- the frozen part lies in the heap, and all tuples are frozen -/
structure Wf (F H : Hp) : Prop where
  ex : ExR F H
  tp : ∀ a xs, H a = some (.tup xs) → F a = some (.tup xs)
structure Le (F H F1 H1 : Hp) : Prop where
  ff : ∀ a u, F a = some u → F1 a = some u
  wf : Wf F1 H1
  ex : ∀ a u, H a = some u → H1 a = some u
  nw : ∀ a, F1 a ≠ none → F a ≠ none ∨ H a = none
theorem Le.refl {F H : Hp} (e : Wf F H) : Le F H F H := ⟨fun _ _ h => h, e, fun _ _ h => h, fun _ h => .inl h⟩
theorem Le.exR {F H F1 H1 : Hp} (l : Le F H F1 H1) : ExR F F1 := .same l.ff
theorem Le.free {F H F1 H1 : Hp} (l : Le F H F1 H1) {a : Addr} {u : HO} (hf : F a = none) (hh : H a = some u) : F1 a = none := by
  cases q : F1 a with
  | none => rfl
  | some z =>
    rcases l.nw a (by rw [q]; exact fun z => nomatch z) with h | h
    · exact absurd hf h
    · rw [hh] at h; cases h
theorem Le.has {F H F1 H1 : Hp} (l : Le F H F1 H1) {a : Addr} (h : H a ≠ none) : H1 a ≠ none := by
  cases qh : H a with
  | none => exact absurd qh h
  | some u => rw [l.ex a u qh]; exact fun z => nomatch z
theorem Le.back {F H F1 H1 : Hp} (l : Le F H F1 H1) {a : Addr} (h : H1 a = none) : H a = none := by
  cases qh : H a with
  | none => rfl
  | some u => rw [l.ex a u qh] at h; cases h
theorem Le.trans {F H F1 H1 F2 H2 : Hp} (a : Le F H F1 H1) (b : Le F1 H1 F2 H2) : Le F H F2 H2 := by
  refine ⟨fun x u h => b.ff x u (a.ff x u h), b.wf, fun x u hh => b.ex x u (a.ex x u hh), fun x hx => ?_⟩
  cases qf : F x with
  | some z => exact .inl (fun z => nomatch z)
  | none =>
    cases qh : H x with
    | none => exact .inr rfl
    | some u =>
      rcases b.nw x hx with h | h
      · exact absurd (a.free qf qh) h
      · rw [a.ex x u qh] at h; cases h
theorem Le.fr {F H F1 H1 : Hp} (l : Le F H F1 H1) (A : Addr → Prop) : Fr F H A F1 H1 A := fun a u ha hf hh => ⟨ha, l.free hf hh, l.ex a u hh⟩
theorem Wf.fresh {F H : Hp} (e : Wf F H) {p : Addr} (h : H p = none) : F p = none := by
  cases q : F p with
  | none => rfl
  | some z => exact absurd h (e.ex.has (by rw [q]; exact fun z => nomatch z))
/-- a new object, frozen at once -/
theorem Le.new {F H : Hp} (e : Wf F H) {p : Addr} {o : HO} (h : H p = none) : Le F H (L2.upd F p o) (L2.upd H p o) := by
  have hf := e.fresh h
  refine ⟨fun a u hh => by rw [upd_ne (ne_of_none hh hf)]; exact hh, ⟨e.ex.both hf, fun a xs r => ?_⟩, fun a u hh => by rw [upd_ne (ne_of_none hh h)]; exact hh, fun a ha => ?_⟩
  · by_cases z : a = p
    · subst z
      rw [upd_same] at r ⊢
      exact r
    · rw [upd_ne z] at r ⊢
      exact e.tp a xs r
  · by_cases z : a = p
    · subst z; exact .inr h
    · rw [upd_ne z] at ha; exact .inl ha
/-- neither a tuple nor a locked one -/
def NoTup : HO → Prop
  | .tup _ => False
  | .frz _ (.tup _) => False
  | _ => True
theorem NoTup.rd {H : Hp} {p : Addr} {o : HO} {xs : List V} (n : NoTup o) (h : H p = some o) : ¬ H p = some (.tup xs) := fun r => by
  rw [h] at r; cases r; exact n
/-- a new object, not frozen -/
theorem Le.newO {F H : Hp} (e : Wf F H) {p : Addr} {o : HO} (n : NoTup o) (h : H p = none) : Le F H F (L2.upd H p o) := by
  refine ⟨fun a u hh => hh, ⟨e.ex.upd (e.fresh h), fun a xs r => ?_⟩, fun a u hh => by rw [upd_ne (ne_of_none hh h)]; exact hh, fun a ha => .inl ha⟩
  by_cases z : a = p
  · subst z; exact absurd r (n.rd upd_same)
  · rw [upd_ne z] at r; exact e.tp a xs r
/-- an unfrozen object written -/
theorem Wf.write {F H : Hp} (e : Wf F H) {p : Addr} {o : HO} (n : NoTup o) (h : F p = none) : Wf F (L2.upd H p o) := by
  refine ⟨e.ex.upd h, fun a xs r => ?_⟩
  by_cases z : a = p
  · subst z; exact absurd r (n.rd upd_same)
  · rw [upd_ne z] at r; exact e.tp a xs r

/-! ### data that hold tuples alone -/
mutual
def D.imm : D → Bool
  | .tup ds => D.imms ds
  | .lst _ => false
  | .dic _ _ => false
  | .dik _ _ => false
  | .ins _ _ _ => false
  | _ => true
def D.imms : List D → Bool
  | [] => true
  | z :: zs => z.imm && D.imms zs
end
mutual
theorem Rep.imm {K : PySem.W.Frag} {F H : Hp} (e : Wf F H) : ∀ (z : D) (v : V), z.imm = true → Rep K H z v → Rep K F z v
  | .non, v, i, h => by simpa only [Rep] using h
  | .bl b, v, i, h => by simpa only [Rep] using h
  | .int j, v, i, h => by simpa only [Rep] using h
  | .str s, v, i, h => by simpa only [Rep] using h
  | .raw w, v, i, h => by simpa only [Rep] using h
  | .tup ds, v, i, h => by
    simp only [Rep] at h ⊢
    obtain ⟨a, vs, h1, h2, h3⟩ := h
    exact ⟨a, vs, h1, e.tp _ _ h2, Reps.imm e ds vs (by simpa only [D.imm] using i) h3⟩
  | .lst ds, v, i, h => by simp only [D.imm] at i; cases i
  | .dic ks ds, v, i, h => by simp only [D.imm] at i; cases i
  | .dik ks ds, v, i, h => by simp only [D.imm] at i; cases i
  | .ins C ns ds, v, i, h => by simp only [D.imm] at i; cases i
theorem Reps.imm {K : PySem.W.Frag} {F H : Hp} (e : Wf F H) : ∀ (ds : List D) (vs : List V), D.imms ds = true → Reps K H ds vs → Reps K F ds vs
  | [], vs, i, h => by simpa only [Reps] using h
  | z :: zs, vs, i, h => by
    simp only [D.imms, Bool.and_eq_true] at i
    simp only [Reps] at h ⊢
    obtain ⟨v, vs', h1, h2, h3⟩ := h
    exact ⟨v, vs', h1, Rep.imm e z v i.1 h2, Reps.imm e zs vs' i.2 h3⟩
end

/-! ### owned lists -/
section
variable {K : PySem.W.Frag} {F H F' H' : Hp}
theorem fr_reg {A A' : Addr → Prop} (h : ∀ a, A a → A' a) : Fr F H A F H A' := fun a u ha hf hh => ⟨h a ha, hf, hh⟩
theorem Own.reg {o : O} {v : V} {A A' : Addr → Prop} (h : Own K F H o v A) (g : ∀ a, A a → A' a) : Own K F H o v A' := Own.frame (.refl F) o v A A' (fr_reg g) h
theorem Owns.reg {o : List O} {v : List V} {A A' : Addr → Prop} (h : Owns K F H o v A) (g : ∀ a, A a → A' a) : Owns K F H o v A' := Owns.frame (.refl F) o v A A' (fr_reg g) h
theorem Owns.nil {A : Addr → Prop} : Owns K F H [] [] A := by simp only [Owns]
theorem Owns.cons {o : O} {os : List O} {v : V} {vs : List V} {A : Addr → Prop} (B : Addr → Prop) (h : Own K F H o v (fun x => A x ∧ B x)) (hs : Owns K F H os vs (fun x => A x ∧ ¬ B x)) : Owns K F H (o :: os) (v :: vs) A := by
  simp only [Owns]; exact ⟨v, vs, B, rfl, h, hs⟩
theorem Owns.uncons {o : O} {os : List O} {v : V} {vs : List V} {A : Addr → Prop} (h : Owns K F H (o :: os) (v :: vs) A) : ∃ B : Addr → Prop, Own K F H o v (fun x => A x ∧ B x) ∧ Owns K F H os vs (fun x => A x ∧ ¬ B x) := by
  simp only [Owns] at h
  obtain ⟨v', vs', B, e, h1, h2⟩ := h
  cases e
  exact ⟨B, h1, h2⟩
theorem Owns.swap {o o' : O} {os : List O} {v v' : V} {vs : List V} {A : Addr → Prop} (h : Owns K F H (o :: o' :: os) (v :: v' :: vs) A) : Owns K F H (o' :: o :: os) (v' :: v :: vs) A := by
  obtain ⟨B, h1, h2⟩ := h.uncons
  obtain ⟨B2, h3, h4⟩ := h2.uncons
  refine .cons (fun a => ¬ B a ∧ B2 a) (h3.reg fun a ha => ⟨ha.1.1, ha.1.2, ha.2⟩) (.cons B (h1.reg fun a ha => ⟨⟨ha.1, fun z => z.1 ha.2⟩, ha.2⟩) (h4.reg fun a ha => ⟨⟨ha.1.1, fun z => ha.2 z.2⟩, ha.1.2⟩))
theorem Owns.app : ∀ {os os' : List O} {vs vs' : List V} {A B : Addr → Prop}, Owns K F H os vs (fun x => A x ∧ B x) → Owns K F H os' vs' (fun x => A x ∧ ¬ B x) → Owns K F H (os ++ os') (vs ++ vs') A
  | [], os', vs, vs', A, B, h, g => by
    simp only [Owns] at h
    subst h
    exact g.reg fun a ha => ha.1
  | o :: os, os', vs, vs', A, B, h, g => by
    simp only [Owns] at h
    obtain ⟨v, vs2, B1, rfl, h2, h3⟩ := h
    refine .cons (fun a => B a ∧ B1 a) (h2.reg fun a ha => ⟨ha.1.1, ha.1.2, ha.2⟩) ?_
    exact Owns.app (B := B) (h3.reg fun a ha => ⟨⟨ha.1.1, fun z => ha.2 z.2⟩, ha.1.2⟩) (g.reg fun a ha => ⟨⟨ha.1, fun z => ha.2 z.1⟩, ha.2⟩)
theorem Owns.spl : ∀ {os os' : List O} {vs vs' : List V} {A : Addr → Prop}, os.length = vs.length → Owns K F H (os ++ os') (vs ++ vs') A → ∃ B : Addr → Prop, Owns K F H os vs (fun x => A x ∧ B x) ∧ Owns K F H os' vs' (fun x => A x ∧ ¬ B x)
  | [], os', [], vs', A, _, h => ⟨fun _ => False, .nil, Owns.reg h fun a ha => ⟨ha, fun z => z⟩⟩
  | [], os', v :: vs, vs', A, e, h => by cases e
  | o :: os, os', [], vs', A, e, h => by cases e
  | o :: os, os', v :: vs, vs', A, e, h => by
    obtain ⟨B, h1, h2⟩ := h.uncons
    obtain ⟨B1, h3, h4⟩ := Owns.spl (by simpa using e) h2
    exact ⟨fun a => B a ∨ B1 a, .cons B (h1.reg fun a ha => ⟨⟨ha.1, .inl ha.2⟩, ha.2⟩) (h3.reg fun a ha => ⟨⟨ha.1.1, .inr ha.2⟩, ha.1.2⟩), h4.reg fun a ha => ⟨ha.1.1, fun z => z.elim ha.1.2 ha.2⟩⟩
/-- resources: pointers and their trees -/
abbrev Rs := List (V × O)
def RsR (K : PySem.W.Frag) (F H : Hp) (rs : Rs) (A : Addr → Prop) : Prop := Owns K F H (rs.map (·.2)) (rs.map (·.1)) A
theorem RsR.frame {rs : Rs} {A A' : Addr → Prop} (e : ExR F F') (f : Fr F H A F' H' A') (h : RsR K F H rs A) : RsR K F' H' rs A' := Owns.frame e _ _ _ _ f h
theorem RsR.reg {rs : Rs} {A A' : Addr → Prop} (h : RsR K F H rs A) (g : ∀ a, A a → A' a) : RsR K F H rs A' := Owns.reg h g
theorem RsR.cons {w : V} {t : O} {rs : Rs} {A : Addr → Prop} (B : Addr → Prop) (h : Own K F H t w (fun x => A x ∧ B x)) (hs : RsR K F H rs (fun x => A x ∧ ¬ B x)) : RsR K F H ((w, t) :: rs) A := Owns.cons B h hs
theorem RsR.uncons {w : V} {t : O} {rs : Rs} {A : Addr → Prop} (h : RsR K F H ((w, t) :: rs) A) : ∃ B : Addr → Prop, Own K F H t w (fun x => A x ∧ B x) ∧ RsR K F H rs (fun x => A x ∧ ¬ B x) := Owns.uncons h
theorem RsR.app {rs rs' : Rs} {A B : Addr → Prop} (h : RsR K F H rs (fun x => A x ∧ B x)) (g : RsR K F H rs' (fun x => A x ∧ ¬ B x)) : RsR K F H (rs ++ rs') A := by
  unfold RsR
  rw [List.map_append, List.map_append]
  exact Owns.app (B := B) h g
theorem RsR.spl {rs rs' : Rs} {A : Addr → Prop} (h : RsR K F H (rs ++ rs') A) : ∃ B : Addr → Prop, RsR K F H rs (fun x => A x ∧ B x) ∧ RsR K F H rs' (fun x => A x ∧ ¬ B x) := by
  unfold RsR at h
  rw [List.map_append, List.map_append] at h
  exact Owns.spl (by simp) h
theorem RsR.perm {rs rs' : Rs} (p : rs.Perm rs') : ∀ {A : Addr → Prop}, RsR K F H rs A → RsR K F H rs' A := by
  induction p with
  | nil => exact fun h => h
  | cons x _ ih =>
    intro A h
    obtain ⟨w, t⟩ := x
    obtain ⟨B, h1, h2⟩ := h.uncons
    exact .cons B h1 (ih h2)
  | swap x y l => exact fun h => Owns.swap h
  | trans _ _ h1 h2 => exact fun h => h2 (h1 h)
end

/-! ### paths -/
def O.kids : O → List O
  | .s _ => []
  | .h _ => []
  | .l os => os
  | .d _ os => os
  | .dk _ os => os
  | .i _ _ os => os
  | .kd _ _ _ os => os
def O.withKids : O → List O → O
  | .s z, _ => .s z
  | .h z, _ => .h z
  | .l _, os => .l os
  | .d ks _, os => .d ks os
  | .dk ks _, os => .dk ks os
  | .i C ns _, os => .i C ns os
  | .kd ob us ks _, os => .kd ob us ks os
def O.at : O → List Nat → Option O
  | o, [] => some o
  | o, j :: p => (o.kids[j]?).bind fun k => k.at p
def O.put : O → List Nat → O → O
  | _, [], t => t
  | o, j :: p, t => match o.kids[j]? with
    | some k => o.withKids (o.kids.set j (k.put p t))
    | none => o
def kidsV : HO → List V
  | .lst vs => vs
  | .dT kvs => kvs.map (·.2)
  | .dK kvs => kvs.map (·.2)
  | .ins _ _ fs => fs.map (·.2)
  | .frz _ (.dT kvs) => kvs.map (·.2)
  | _ => []
def PathV (H : Hp) : V → List Nat → V → Prop
  | v, [], w => w = v
  | v, j :: p, w => ∃ a u k, v = .ref a ∧ H a = some u ∧ (kidsV u)[j]? = some k ∧ PathV H k p w
theorem PathV.uniq {H : Hp} : ∀ {p : List Nat} {v w w' : V}, PathV H v p w → PathV H v p w' → w = w'
  | [], v, w, w', h, h' => by rw [show w = v from h, show w' = v from h']
  | j :: p, v, w, w', h, h' => by
    obtain ⟨a, u, k, h1, h2, h3, h4⟩ := h
    obtain ⟨a', u', k', g1, g2, g3, g4⟩ := h'
    rw [h1] at g1
    cases g1
    rw [h2] at g2
    cases g2
    rw [h3] at g3
    cases g3
    exact h4.uniq g4
section
variable {K : PySem.W.Frag} {F H : Hp}
theorem Owns.length : ∀ {os : List O} {vs : List V} {A : Addr → Prop}, Owns K F H os vs A → os.length = vs.length
  | [], vs, A, h => by simp only [Owns] at h; subst h; rfl
  | o :: os, vs, A, h => by
    simp only [Owns] at h
    obtain ⟨v, vs', B, h1, h2, h3⟩ := h
    subst h1
    simp [h3.length]
theorem Owns.at : ∀ {os : List O} {vs : List V} {A : Addr → Prop} {j : Nat} {o : O}, Owns K F H os vs A → os[j]? = some o → ∃ (w : V) (B : Addr → Prop), vs[j]? = some w ∧ Own K F H o w (fun a => A a ∧ B a) ∧
    ∀ (F' H' : Hp) (o' : O) (w' : V) (A' B' : Addr → Prop), ExR F F' → Fr F H (fun a => A a ∧ ¬ B a) F' H' (fun a => A' a ∧ ¬ B' a) → Own K F' H' o' w' (fun a => A' a ∧ B' a) → Owns K F' H' (os.set j o') (vs.set j w') A'
  | [], vs, A, j, o, h, e => by simp at e
  | o0 :: os, vs, A, 0, o, h, e => by
    simp only [Owns] at h
    obtain ⟨v, vs', B, h1, h2, h3⟩ := h
    simp at e
    subst e h1
    refine ⟨v, B, rfl, h2, fun F' H' o' w' A' B' ef f g => ?_⟩
    simp only [List.set_cons_zero, Owns]
    exact ⟨w', vs', B', rfl, g, Owns.frame ef os vs' _ _ f h3⟩
  | o0 :: os, vs, A, j + 1, o, h, e => by
    simp only [Owns] at h
    obtain ⟨v0, vs', B0, h1, h2, h3⟩ := h
    simp at e
    subst h1
    obtain ⟨w, B1, g1, g2, g3⟩ := Owns.at h3 e
    refine ⟨w, fun a => ¬ B0 a ∧ B1 a, by simpa using g1, g2.reg fun a ha => ⟨ha.1.1, ha.1.2, ha.2⟩, fun F' H' o' w' A' B' ef f g => ?_⟩
    have hh : Own K F' H' o0 v0 (fun a => A' a ∧ (B0 a ∧ ¬ B' a)) := Own.frame ef o0 v0 _ _ (fun a u ha hf hu => by
      obtain ⟨q1, q2, q3⟩ := f a u ⟨ha.1, fun z => z.1 ha.2⟩ hf hu
      exact ⟨⟨q1.1, ha.2, q1.2⟩, q2, q3⟩) h2
    simp only [List.set_cons_succ, Owns]
    refine ⟨v0, vs'.set j w', fun a => B0 a ∧ ¬ B' a, rfl, hh, ?_⟩
    refine g3 F' H' o' w' _ B' ef (fun a u ha hf hu => ?_) (g.reg fun a ha => ⟨⟨ha.1, fun z => z.2 ha.2⟩, ha.2⟩)
    obtain ⟨q1, q2, q3⟩ := f a u ⟨ha.1.1, fun z => ha.2 z.2⟩ hf hu
    exact ⟨⟨⟨q1.1, fun z => ha.1.2 z.1⟩, q1.2⟩, q2, q3⟩
theorem set_same {α : Type} {l : List α} {i : Nat} {x : α} (h : l[i]? = some x) : l.set i x = l := by
  obtain ⟨hz, e⟩ := List.getElem?_eq_some_iff.mp h
  rw [← e]; exact List.set_getElem_self hz
theorem zip_snd {α β : Type} : ∀ {ks : List α} {vs : List β}, ks.length = vs.length → (ks.zip vs).map (·.2) = vs
  | [], [], _ => rfl
  | k :: ks, v :: vs, h => by simp [zip_snd (ks := ks) (vs := vs) (by simpa using h)]
/-- the root of a tree that has kids -/
theorem Own.root {o : O} {v : V} {A : Addr → Prop} (h : Own K F H o v A) (hk : o.kids ≠ []) : ∃ (a : Addr) (u : HO), v = .ref a ∧ A a ∧ F a = none ∧ H a = some u ∧ Owns K F H o.kids (kidsV u) (fun x => A x ∧ x ≠ a) ∧
    ∀ (F' H' : Hp) (os' : List O) (A' : Addr → Prop), os'.length = o.kids.length → A' a → F' a = none → H' a = some u → Owns K F' H' os' (kidsV u) (fun x => A' x ∧ x ≠ a) → Own K F' H' (o.withKids os') v A' := by
  cases o with
  | s z => exact absurd rfl hk
  | h z => exact absurd rfl hk
  | l os =>
    simp only [Own] at h
    obtain ⟨a, vs, h1, h2, h3, h4, h5⟩ := h
    refine ⟨a, _, h1, h2, h3, h4, h5, fun F' H' os' A' hl g1 g2 g3 g4 => ?_⟩
    simp only [O.withKids, Own]
    exact ⟨a, vs, h1, g1, g2, g3, g4⟩
  | d ks os =>
    simp only [Own] at h
    obtain ⟨a, vs, h1, h2, h3, h4, h6, h5⟩ := h
    have e : kidsV (.dT (ks.zip vs)) = vs := zip_snd (h6.trans h5.length)
    refine ⟨a, _, h1, h2, h3, h4, by rw [e]; exact h5, fun F' H' os' A' hl g1 g2 g3 g4 => ?_⟩
    rw [e] at g4
    simp only [O.withKids, Own]
    exact ⟨a, vs, h1, g1, g2, g3, h6.trans hl.symm, g4⟩
  | dk ks os =>
    simp only [Own] at h
    obtain ⟨a, vs, h1, h2, h3, h4, h6, h5⟩ := h
    have e : kidsV (.dK (ks.zip vs)) = vs := zip_snd (h6.trans h5.length)
    refine ⟨a, _, h1, h2, h3, h4, by rw [e]; exact h5, fun F' H' os' A' hl g1 g2 g3 g4 => ?_⟩
    rw [e] at g4
    simp only [O.withKids, Own]
    exact ⟨a, vs, h1, g1, g2, g3, h6.trans hl.symm, g4⟩
  | i C ns os =>
    simp only [Own] at h
    obtain ⟨a, dx, vs, h1, h2, h3, h4, h6, h5⟩ := h
    have e : kidsV (.ins C dx (ns.zip vs)) = vs := zip_snd (h6.trans h5.length)
    refine ⟨a, _, h1, h2, h3, h4, by rw [e]; exact h5, fun F' H' os' A' hl g1 g2 g3 g4 => ?_⟩
    rw [e] at g4
    simp only [O.withKids, Own]
    exact ⟨a, dx, vs, h1, g1, g2, g3, h6.trans hl.symm, g4⟩
  | kd ob us ks os =>
    simp only [Own] at h
    obtain ⟨a, h1, h2, h3, h4, h6, h5⟩ := h
    have e : kidsV (.frz ob (.dT (ks.zip us))) = us := zip_snd (h6.trans h5.length)
    refine ⟨a, _, h1, h2, h3, h4, by rw [e]; exact h5, fun F' H' os' A' hl g1 g2 g3 g4 => ?_⟩
    rw [e] at g4
    simp only [O.withKids, Own]
    exact ⟨a, h1, g1, g2, g3, h6.trans hl.symm, g4⟩
/-- THE FOCUS on a tree's part -/
theorem Own.at : ∀ (p : List Nat) {o t : O} {v : V} {A : Addr → Prop}, Own K F H o v A → o.at p = some t → ∃ (w : V) (B : Addr → Prop), PathV H v p w ∧ Own K F H t w (fun a => A a ∧ B a) ∧
    ∀ (F' H' : Hp) (t' : O) (A' B' : Addr → Prop), ExR F F' → Fr F H (fun a => A a ∧ ¬ B a) F' H' (fun a => A' a ∧ ¬ B' a) → Own K F' H' t' w (fun a => A' a ∧ B' a) → Own K F' H' (o.put p t') v A'
  | [], o, t, v, A, h, e => by
    simp only [O.at, Option.some.injEq] at e
    subst e
    refine ⟨v, fun _ => True, rfl, h.reg fun a ha => ⟨ha, True.intro⟩, fun F' H' t' A' B' ef f g => ?_⟩
    simp only [O.put]
    exact g.reg fun a ha => ha.1
  | j :: p, o, t, v, A, h, e => by
    simp only [O.at] at e
    cases ek : o.kids[j]? with
    | none => rw [ek] at e; simp at e
    | some k =>
      rw [ek] at e
      have e' : k.at p = some t := by simpa using e
      have hk : o.kids ≠ [] := fun z => by rw [z] at ek; simp at ek
      obtain ⟨a, u, h1, h2, h3, h4, h5, h6⟩ := h.root hk
      obtain ⟨k', B1, g1, g2, g3⟩ := h5.at ek
      obtain ⟨w, B2, q1, q2, q3⟩ := Own.at p g2 e'
      refine ⟨w, fun x => x ≠ a ∧ B1 x ∧ B2 x, ⟨a, u, k', h1, h4, g1, q1⟩, q2.reg fun x hx => ⟨hx.1.1.1, hx.1.1.2, hx.1.2, hx.2⟩, fun F' H' t' A' B' ef f g => ?_⟩
      obtain ⟨r1, r2, r3⟩ := f a u ⟨h2, fun z => z.1 rfl⟩ h3 h4
      have na : ¬ B' a := r1.2
      have key : Owns K F' H' (o.kids.set j (k.put p t')) ((kidsV u).set j k') (fun x => A' x ∧ x ≠ a) := by
        refine g3 F' H' _ k' _ (fun x => B1 x ∨ B' x) ef (fun x y hx hf hy => ?_) ?_
        · obtain ⟨s1, s2, s3⟩ := f x y ⟨hx.1.1, fun z => hx.2 z.2.1⟩ hf hy
          exact ⟨⟨⟨s1.1, hx.1.2⟩, fun z => z.elim hx.2 s1.2⟩, s2, s3⟩
        · refine q3 F' H' t' _ B' ef (fun x y hx hf hy => ?_) (g.reg fun x hx => ⟨⟨⟨hx.1, fun z => na (by rw [← z]; exact hx.2)⟩, .inr hx.2⟩, hx.2⟩)
          obtain ⟨s1, s2, s3⟩ := f x y ⟨hx.1.1.1, fun z => hx.2 z.2.2⟩ hf hy
          exact ⟨⟨⟨⟨s1.1, hx.1.1.2⟩, .inl hx.1.2⟩, s1.2⟩, s2, s3⟩
      rw [set_same g1] at key
      simp only [O.put, ek]
      exact h6 F' H' _ A' (by simp) r1.1 r2 r3 key
end
end Y
/-! dicts with tuple keys, further -/
namespace Y0
open PySem PySem.Spec PyProof.Rows L2

section
variable {X : Cx} {pins : List (Addr × Obj)} {σ : L2.St} {H : Hp} {s : Shared} {a b : Addr} {d : V} {u r : Value} {k : List Key} {kvs : List (List Key × V)} {A : Around} {E : Value → Shared → Prop}
/-- the object behind a store, told of the abstract heap -/
theorem dt_after {h' : Heap} {t' : Nat} {l : List (List Key × V)} {xs : List (List Key × Addr × Value)} (I : Inv X pins σ H s) (e : H a = some (.dT kvs)) (hd : (a == sysModules) = false) (hz : l.length ≤ sizeLine) (rel : KT H l xs)
    (dd : h'.DictOfH (tupleKind (mixKind X.prog X.w)) a xs) (sb : Heap.SameBut a s.heap h') : Inv X pins σ (upd H a (.dT l)) { s with heap := h', toks := t' } := by
  obtain ⟨q, es, ep, hq, h2, h3, h4, _, h5⟩ := dd
  refine d_write I (by rw [e]; trivial) sb ⟨q, hq⟩ ⟨hz, hd, xs, rel.keeps fun c ys ec => ?_, q, es, ep, hq, h2, h3, h4, h5⟩
  rw [upd_ne (ne_of ec e (fun z => nomatch z))]
  exact ec
theorem KT.len {H : Hp} {kvs : List (List Key × V)} {xs : List (List Key × Addr × Value)} (r : KT H kvs xs) : kvs.length = xs.length := Paired.length r
/-- d.setdefault(k, x) -/
theorem d_setdT {Q : Value → Shared → Prop} (hu : A.units + 1 < cLine) (I : Inv X pins σ H s) (e : H a = some (.dT kvs)) (eb : H b = some (.tup (k.map kV))) (rd : RelV d r) (hl : kvs.length < sizeLine)
    (h1 : ∀ v, valV kvs k = some v → ∀ (w' : Value) (s' : Shared), Inv X pins σ H s' → RelV v w' → Q w' s') (h2 : valV kvs k = none → ∀ (s' : Shared), Inv X pins σ (upd H a (.dT (putK kvs k d))) s' → Q r s') :
    wpAny (model X.prog X.w) A (call (.builtin "dict.setdefault") [.ref a, .ref b, r]) Q E s := by
  obtain ⟨z, hd, xs, rel, dd⟩ := dt_of I.hok e
  have hz : xs.length ≤ sizeLine := by rw [← KT.len rel]; exact z
  have lk := rel.val k
  refine PySem.call_setdefault_heap (hsz := hz) (tupleKind_room_in1 hu) (key_of I.hok eb) hd dd (fun p hp => ?_) fun hn h' dd' sb => ?_
  · rw [hp] at lk
    cases q : valV kvs k with
    | none => rw [q] at lk; exact lk.elim
    | some v => rw [q] at lk; exact h1 v q _ _ (I.tok _) lk
  · rw [hn] at lk
    cases q : valV kvs k with
    | some v => rw [q] at lk; exact lk.elim
    | none => exact h2 q _ (dt_after I e hd (by have := length_putK kvs k d; omega) (rel.put k eb rd) dd' sb)
/-- d.clear() -/
theorem d_clearT {Q : Value → Shared → Prop} (I : Inv X pins σ H s) (e : H a = some (.dT kvs)) (h : ∀ s', Inv X pins σ (upd H a (.dT [])) s' → Q .none s') : wpAny (model X.prog X.w) A (call (.builtin "dict.clear") [.ref a]) Q E s := by
  obtain ⟨z, hd, xs, rel, dd⟩ := dt_of I.hok e
  refine PySem.clear_keyed (knd := tupleKind (mixKind X.prog X.w)) ⟨xs, dd, rfl⟩ (fun h' dd' sb => h _ ?_) (hsz := by rw [pairsH_length, ← KT.len rel]; exact z)
  obtain ⟨xs', dx, ex⟩ := dd'
  have : xs' = [] := by
    cases xs' with
    | nil => rfl
    | cons p l => simp [pairsH] at ex
  subst this
  exact dt_after (t' := s.toks) I e hd (Nat.zero_le _) .nil dx sb
/-- d[k] = v by a comprehension -/
theorem d_dictSetT {Q : Unit → Shared → Prop} (hu : A.units < cLine) (I : Inv X pins σ H s) (e : H a = some (.dT kvs)) (eb : H b = some (.tup (k.map kV))) (rd : RelV d r) (hl : kvs.length < sizeLine)
    (h : ∀ s', Inv X pins σ (upd H a (.dT (putK kvs k d))) s' → Q () s') : wpAny (model X.prog X.w) A (dictSet a (.ref b) r) Q E s := by
  obtain ⟨z, hd, xs, rel, dd⟩ := dt_of I.hok e
  have hz : xs.length ≤ sizeLine := by rw [← KT.len rel]; exact z
  exact wpAny_dictSet_heap (hsz := hz) (show (tupleKind (mixKind X.prog X.w)).room A from hu) (key_of I.hok eb) dd fun h' dd' sb => h _ (dt_after I e hd (by have := length_putK kvs k d; omega) (rel.put k eb rd) dd' sb)
end

section
variable {X : Cx} {o e f : Expr} {td ty tx : TE} {apos cpos : Pos}
def tSetdT (td ty tx : TE) : TE := fun σ H Q => td σ H fun x H1 => ∃ a, x = .ref a ∧ IsD H1 a ∧ ty σ H1 fun y H2 => tx σ H2 fun z H3 => ∃ (kvs : List (List Key × V)) (k : List Key) (b : Addr), H3 a = some (.dT kvs) ∧ y = .ref b ∧ H3 b = some (.tup (k.map kV)) ∧ kvs.length < sizeLine ∧
  (∀ v, valV kvs k = some v → Q v H3) ∧ (valV kvs k = none → Q z (upd H3 a (.dT (putK kvs k z))))
theorem pe_setdT (hu : X.A.units + 1 < cLine) (ho : PE X o td) (he : PE X e ty) (hf : PE X f tx) (m : M2 X o "setdefault" apos e f cpos) : PE X (.Call (.Attribute o "setdefault" apos) [e, f] [] cpos) (tSetdT td ty tx) := by
  constructor
  intro pins s σ H Q I h
  refine wpAny_Call_method m.base m.few m.line PySem.F.plainAttrs_dict PySem.F.slot_dict_setdefault PySem.F.type_dict_setdefault (thn (ho.run pins s σ H _ I h) ?_)
  rintro _ s1 ⟨_, H1, I1, rx, a, rfl, isd, q1⟩
  cases rx
  obtain ⟨t1, t2, _⟩ := isD_at I1 isd
  refine ⟨t1, t2, ?_⟩
  rw [m.trees]
  refine Calls.callWith_builtin rfl (Calls.evalArgs_plain (Calls.spliced_cons (thn (he.run pins s1 σ H1 _ I1 q1) ?_)))
  rintro _ s2 ⟨_, H2, I2, ry, q2⟩
  refine Calls.spliced_cons (thn (hf.run pins s2 σ H2 _ I2 q2) ?_)
  rintro fv s3 ⟨z, H3, I3, rz, kvs, k, b, ea, rfl, eb, hl, q3, q4⟩
  cases ry
  refine Calls.spliced_nil (d_setdT hu I3 ea eb rz hl (fun v hv w' s4 I4 rw' => ⟨v, _, I4, rw', q3 v hv⟩) fun hn s4 I4 => ⟨z, _, I4, rz, q4 hn⟩)
def rClearT : V → List V → Hp → VK → Prop := fun x vs H Q => ∃ a kvs, x = .ref a ∧ vs = [] ∧ H a = some (.dT kvs) ∧ Q .non (upd H a (.dT []))
theorem mt_clearT : MtM X "dict.clear" rClearT := by
  rintro pins s σ H _ _ _ _ Q I rx rv ⟨a, kvs, rfl, rfl, ea, q⟩
  cases rx
  cases rv
  exact d_clearT I ea fun s' I' => ⟨.non, _, I', rfl, q⟩
end

/-! ### {k: v for ..}, the keys tuples -/
section
variable {X : Cx}
def tDcT (wi : TI) (g : TG) (tt : TT) (tk tv : TE) (vs : List Nat) : TE := fun σ H Q => wi σ H fun J H1 => ∀ D, H1 D = none → ∃ W : Nat → Nat → Hp → Prop, (∃ m, W 0 m (upd H1 D (.dT []))) ∧ ∀ i m H, W i m H →
  (J.stop i H ∧ Q (.ref D) H) ∨ (J.go i H ∧ ∃ Nx : Hp → Prop, (∀ H', Nx H' → ∃ m', m' < m ∧ W (i + 1) m' H') ∧ ∀ x H', J.yld i H x H' → g x (wipe σ vs) H' fun σ2 H2 => wipe σ2 vs = wipe σ vs ∧ tt σ2 H2 fun b H3 =>
    if b = true then tk σ2 H3 fun y H4 => tv σ2 H4 fun z H5 => ∃ kvs k q, y = .ref q ∧ H5 q = some (.tup (k.map kV)) ∧ H5 D = some (.dT kvs) ∧ kvs.length < sizeLine ∧ Nx (upd H5 D (.dT (putK kvs k z))) else Nx H3)
/-- what the block of a comprehension is asked of: for each way to call its frame -/
abbrev InBlk (X : Cx) (scope : Scope) (P : Cx → Prop) : Prop := ∀ (s : Shared) (H : Hp) (C : Addr) (cl : List (Str × Addr)) (fp : List Addr), P (X.blk s H scope (compEnvC scope cl C X.env) fp)
theorem dcT_core {pins : List (Addr × Obj)} {s : Shared} {σ : L2.St} {H : Hp} {Q : VK} {use : Option (Value → Sem Unit)} {Qf : Value → Shared → Prop} {pos' : Pos} {kx vx tg iter : Expr} {ifs : List Expr} {scope : Scope} {own : List (Str × Nat)} {pos : Pos} {wi : TI} {g : TG} {tt : TT} {tk tv : TE} (hu : X.A.units < cLine) (hc : X.calm = true) (hN : X.N.Nodup) (hi : PI X tg iter wi) (ok : BlkOk X.N X.env.scope scope own)
    (hg : InBlk X scope fun B => PG B tg g) (ht : InBlk X scope fun B => PTs B ifs tt) (hk : InBlk X scope fun B => PE B kx tk) (he : InBlk X scope fun B => PE B vx tv) (hs : ∀ x, foldedSetIterable iter X.env x = pure x) (I : Inv X pins σ H s) (h : tDcT wi g tt tk tv (own.map (·.2)) σ H Q)
    (hRR : ∀ D C s' m H', Inv X pins σ H' s' → Q (.ref D) H' → s'.heap.Ns C m → FpOk X pins H' C → compPost (model X.prog X.w) X.A X.xe use Qf (.ref D) C (.ok .next) s') :
    wpAny (model X.prog X.w) X.A (comprehension (.DictComp kx vx [⟨tg, iter, ifs, 0⟩] scope pos) scope X.env pos' newDict false (eval iter X.env) use) Qf X.xe s := by
  have free : ∀ y ∈ scope.names, y.2 = .free → ∃ c, X.env.cells.lookup y.1 = some c := fun y hy e => (ok.free y hy e).elim (fun z => I.ok.has _ (.inl z)) fun z => I.ok.has _ (.inr z)
  refine wpAny_comprehension_free (use := use) rfl hs (closure_ok free) ok.kind (fun y hy e => by rw [ok.uniq y hy, e]) (thn (hi.run pins s σ H _ I h) fun xv s1 hx => thn hx ?_)
  rintro _ s2 ⟨it, fp, tn, J, H2, rfl, I2, T, st2, f2, q⟩
  refine wpAny_newObj_type (newEnv_comp ?_)
  -- the new dict, at D
  obtain ⟨D, eD⟩ : ∃ D, s2.heap.objs.size = D := ⟨_, rfl⟩
  have nD : H2 D = none := I2.hok.fresh (Nat.le_of_eq eD)
  obtain ⟨W, ⟨m0, w0⟩, turn⟩ := q D nD
  obtain ⟨s3, e3⟩ : ∃ s3 : Shared, ({ s2 with heap := s2.heap.push { cls := .type "dict", data := .dict #[] } } : Shared) = s3 := ⟨_, rfl⟩
  have h3 : s3.heap = s2.heap.push { cls := .type "dict", data := .dict #[] } := by rw [← e3]
  obtain ⟨H3, eH3⟩ : ∃ H3, upd H2 D (.dT []) = H3 := ⟨_, rfl⟩
  have I3 : Inv X pins σ H3 s3 := by
    rw [← e3, ← eH3]
    refine I2.laid (t' := s2.toks) (fun b o e => Heap.get?_push_of_some _ e) (Nat.le_of_eq eD) ?_
    rw [← eD]
    exact dt_empty s2.heap I2.big
  have old : ∀ b ∈ fp, b < s2.heap.objs.size := fun b hb => let ⟨o, e, _⟩ := T.obj _ _ st2 b hb; Heap.lt_size e
  have f3 : ∀ b ∈ fp, FpOk X pins H3 b ∧ b < s3.heap.objs.size := fun b hb => by
    refine ⟨⟨?_, (f2 b hb).2⟩, by rw [h3, Heap.size_push]; exact Nat.lt_succ_of_lt (old b hb)⟩
    rw [← eH3, upd_ne (by rw [← eD]; exact Nat.ne_of_lt (old b hb))]
    exact (f2 b hb).1
  have st3 : tn 0 s3.heap := T.keep _ _ _ st2 fun b _ o e => by rw [h3]; exact Heap.get?_push_of_some _ e
  have I4 := block_start I3 ok hN f3
  let cl := cellsFrom (s3.heap.objs.size + 1) scope.names (cloFrom X.env.cells scope.names [])
  have pg := hg s3 H3 s3.heap.objs.size cl fp
  have pt := ht s3 H3 s3.heap.objs.size cl fp
  have pk := hk s3 H3 s3.heap.objs.size cl fp
  have pe := he s3 H3 s3.heap.objs.size cl fp
  rw [e3, eD]
  have e4' : ({ s3 with heap := pushCells (s2.heap.push { cls := .type "dict", data := .dict #[] } |>.push { cls := .type "dict", data := .dict #[] }) scope.names } : Shared) = { s3 with heap := pushCells (s3.heap.push { cls := .type "dict", data := .dict #[] }) scope.names } := by rw [h3]
  show codeAny _ _ (.compStart (.DictComp kx vx [⟨tg, iter, ifs, 0⟩] scope pos) 0 (.ref it) (.ref D) (compEnvC scope cl s3.heap.objs.size X.env)) (compPost (model X.prog X.w) X.A X.xe use Qf (.ref D) s3.heap.objs.size) { s3 with heap := pushCells (s3.heap.push { cls := .type "dict", data := .dict #[] }) scope.names }
  obtain ⟨ce, ece⟩ : ∃ ce, compEnvC scope cl s3.heap.objs.size X.env = ce := ⟨_, rfl⟩
  rw [ece] at I4 pg pt pk pe ⊢
  have cL : ce.locals = s3.heap.objs.size := by rw [← ece]; rfl
  obtain ⟨s4, e4⟩ : ∃ s4 : Shared, ({ s3 with heap := pushCells (s3.heap.push { cls := .type "dict", data := .dict #[] }) scope.names } : Shared) = s4 := ⟨_, rfl⟩
  rw [e4] at I4 ⊢
  have st4 : tn 0 s4.heap := T.keep _ _ _ st3 fun b _ o e => by rw [← e4]; exact pushCells_keeps _ _ _ _ (Heap.get?_push_of_some _ e)
  have stays : ∀ {σ' : L2.St} {H' : Hp} {s' : Shared}, Inv (X.blk s3 H3 scope ce fp) [] σ' H' s' → (∀ b ∈ fp, H' b = none) → ∀ b ∈ fp, FpOk (X.blk s3 H3 scope ce fp) [] H' b := fun {σ' H' s'} I' hn b hb =>
    ⟨hn b hb, (I'.ok.exf b hb).1, I'.ok.exfs b hb, .inl hb, fun x c e => (I'.ok.exf b hb).2 x c e, fun p hp => nomatch (show p ∈ ([] : List (Addr × Obj)) from by simpa using hp)⟩
  let Lp : Nat → Shared → Prop := fun n s' => ∃ i H', Inv (X.blk s3 H3 scope ce fp) [] (wipe σ (own.map (·.2))) H' s' ∧ tn i s'.heap ∧ (∀ b ∈ fp, H' b = none) ∧ W i n H'
  have loop : codeAny (model X.prog X.w) X.A (.compLoop (.DictComp kx vx [⟨tg, iter, ifs, 0⟩] scope pos) 0 (.ref it) (.ref D) ce) (compPost (model X.prog X.w) X.A X.xe use Qf (.ref D) s3.heap.objs.size) s4 := by
    refine compLoop_anyD Lp ?_ m0 ⟨0, H3, I4, st4, fun b hb => (f3 b hb).1.1, by rw [← eH3]; exact w0⟩
    rintro n s5 ⟨i, H5, I5, st5, n5, w5⟩
    rcases turn i n H5 w5 with ⟨stop, qq⟩ | ⟨go, Nx, hNx, step⟩
    · refine thnF (T.done (X.blk s3 H3 scope ce fp) rfl rfl rfl hc i [] s5 _ H5 (fun _ _ => False) I5 (stays I5 n5) st5 stop) ?_
      rintro _ s6 ⟨rfl, I6⟩
      have I7 : Inv X pins σ H5 s6 := I3.call' (ch := fp) I6.os I6.base I6.hok I6.bare fun b hb => let z := (f3 b hb).1.2; ⟨z.2.2.1, z.1, z.2.2.2.1, z.2.2.2.2⟩
      have nC : H5 s3.heap.objs.size = none := by rw [← cL]; exact I6.free
      obtain ⟨m, hn, _⟩ := I6.loc
      exact hRR D s3.heap.objs.size s6 m H5 I7 qq (by rw [← cL]; exact hn) (I3.fpOk (Nat.le_refl _) nC)
    · refine thnF (T.item (X.blk s3 H3 scope ce fp) rfl rfl rfl hc i [] s5 _ H5 (fun _ _ => False) I5 (stays I5 n5) st5 go) ?_
      rintro _ s6 ⟨u, rfl, h6⟩
      refine thnF h6 ?_
      rintro _ s7 ⟨x, H7, I7, r7, y7, st7, n7⟩
      refine thnF (pg.run _ s7 _ H7 x u _ (I7.pinned (stays I7 n7) (T.obj _ _ st7)) r7 (step x H7 y7)) ?_
      rintro _ s8 ⟨σ8, H8, I8, hw8, q8⟩
      refine thnF (pt.run _ s8 σ8 H8 _ I8 q8) ?_
      rintro b s9 ⟨H9, I9, q9⟩
      have fin : ∀ {s' : Shared} {H' : Hp}, Inv (X.blk s3 H3 scope ce fp) ([] ++ pinsAt fp s7.heap) σ8 H' s' → Nx H' → ∃ m, m < n ∧ Lp m s' := fun {s' H'} I' nx => by
        obtain ⟨m', hm, w'⟩ := hNx H' nx
        have pin' : ∀ b ∈ fp, ∀ o, s7.heap.get? b = some o → s'.heap.get? b = some o ∧ H' b = none := fun b hb o e =>
          let z := I'.pin (b, o) (List.mem_append_right _ (List.mem_append_right _ (mem_pinsAt hb e)))
          ⟨z.1, z.2.1⟩
        have hl : (wipe σ (own.map (·.2))).length = σ8.length := by rw [← hw8, wipe_length]
        refine ⟨m', hm, i + 1, H', (I'.unpinned (pins := [])).weak hl (fun j v e => (wipe_some (hw8 ▸ e)).1), T.keep _ _ _ st7 fun b hb o e => (pin' b hb o e).1, fun b hb => ?_, w'⟩
        obtain ⟨o, e, _⟩ := T.obj _ _ st7 b hb
        exact (pin' b hb o e).2
      cases b with
      | false => simpa using fin I9 (by simpa using q9)
      | true =>
        simp only [if_true] at q9 ⊢
        refine thnF (pk.run _ s9 σ8 H9 _ I9 q9) ?_
        rintro z s10 ⟨yk, H10, I10, r10, q10⟩
        refine thnF (pe.run _ s10 σ8 H10 _ I10 q10) ?_
        rintro z2 s11 ⟨yv, H11, I11, r11, kvs, k, p, rfl, hp, hD11, hz11, nx⟩
        cases r10
        exact d_dictSetT (X := X.blk s3 H3 scope ce fp) hu I11 hD11 hp r11 hz11 fun s12 I12 => fin I12 nx
  exact codeAny_compStart_dict loop (T.self X.A 0 _ _ _ st4 loop)
theorem pe_dcT {kx vx tg iter : Expr} {ifs : List Expr} {scope : Scope} {own : List (Str × Nat)} {pos : Pos} {wi : TI} {g : TG} {tt : TT} {tk tv : TE} (hu : X.A.units < cLine) (hc : X.calm = true) (hN : X.N.Nodup) (hi : PI X tg iter wi) (ok : BlkOk X.N X.env.scope scope own)
    (hg : InBlk X scope fun B => PG B tg g) (ht : InBlk X scope fun B => PTs B ifs tt) (hk : InBlk X scope fun B => PE B kx tk) (he : InBlk X scope fun B => PE B vx tv) (hs : ∀ x, foldedSetIterable iter X.env x = pure x) :
    PE X (.DictComp kx vx [⟨tg, iter, ifs, 0⟩] scope pos) (tDcT wi g tt tk tv (own.map (·.2))) := by
  constructor
  intro pins s σ H Q I h
  rw [arm_eval_DictComp]
  refine dcT_core hu hc hN hi ok hg ht hk he hs I h fun D C s' m H' I' q hn f => ⟨m, hn, fun h'' sb => ?_⟩
  obtain ⟨g0, g1, g2, g3, g4, g5⟩ := f
  exact ⟨.ref D, H', I'.turned (t' := s'.toks) (fun b o hb e => (sb.2 b hb).trans e) g0 g1 g3 g4 g5, rfl, q⟩
/-- name = {..} on one line, the name a local -/
theorem ps_setDcT {i : Nat} {y : Str} {py spos : Pos} {kx vx tg iter : Expr} {ifs : List Expr} {scope : Scope} {own : List (Str × Nat)} {pos : Pos} {wi : TI} {g : TG} {tt : TT} {tk tv : TE} (hu : X.A.units < cLine) (hc : X.calm = true) (hN : X.N.Nodup) (hi : PI X tg iter wi) (ok : BlkOk X.N X.env.scope scope own)
    (hg : InBlk X scope fun B => PG B tg g) (ht : InBlk X scope fun B => PTs B ifs tt) (hk : InBlk X scope fun B => PE B kx tk) (he : InBlk X scope fun B => PE B vx tv) (hs : ∀ x, foldedSetIterable iter X.env x = pure x) (hy : X.N[i]? = some y) (hyl : X.env.scope.names.lookup y = some .local)
    (hsw : swapsWith (.DictComp kx vx [⟨tg, iter, ifs, 0⟩] scope pos) (some (.Name y py)) spos.line X.env = pure true) :
    PS X (.Assign [.Name y py] (.DictComp kx vx [⟨tg, iter, ifs, 0⟩] scope pos) spos) (tAsg (tDcT wi g tt tk tv (own.map (·.2))) (gName i)) := by
  constructor
  intro pins s σ H D I h
  rw [exec_Assign_Name_used _ _ _ _ hsw]
  refine wpAny_bind (wpAny_standAt (wpAny_bind ?_))
  show wpAny _ X.A (do let _ ← comprehension (.DictComp kx vx [⟨tg, iter, ifs, 0⟩] scope pos) scope X.env (firstIterPos [⟨tg, iter, ifs, 0⟩] pos) newDict false (eval iter X.env) (some (assign (.Name y py) X.env))) _ _ s
  have h : tDcT wi g tt tk tv (own.map (·.2)) σ H (fun x H1 => gName i x σ H1 D.nx) := h
  refine wpAny_bind (thn (dcT_core (Qf := fun _ s' => SP X pins D .next s') hu hc hN hi ok hg ht hk he hs I h fun L C s' m H' I' q hn f => ?_) fun _ s' hq => wpAny_pure (wpAny_pure hq))
  show wpAny _ _ (assign (.Name y py) X.env (.ref L)) _ _ _
  refine wpAny_assign_Name (store_ok2 (v := V.ref L) I' hN hy (.inl hyl) rfl (fun s2 I2 hh => ?_) (.inr hyl))
  obtain ⟨a, sb, ha⟩ := hh
  obtain ⟨g0, g1, g2, g3, g4, g5⟩ := f
  have hca : C ≠ a := by
    rcases ha with z | z
    · exact z ▸ g1
    · exact fun e => g4 y a z e.symm
  exact ⟨m, hn.sameBut sb hca, fun h3 sb3 => ⟨_, H', I2.turned (t' := s2.toks) (fun b o hb e => (sb3.2 b hb).trans e) g0 g1 g3 g4 g5, q⟩⟩
theorem sw_trueD {kx vx : Expr} {gs : List Comprehension} {scope : Scope} {pos py : Pos} {y : Str} {l : Nat} {env : Env} (hk : env.scope.kind = .function) (hy : env.scope.names.lookup y = some .local) (hl : (py.line == pos.line) = true)
    (ha : (scope.names.any fun (n, k) => n == y && (k == .local || k == .cell)) = false) : swapsWith (.DictComp kx vx gs scope pos) (some (.Name y py)) l env = pure true := by
  have ky : env.kindOf y = some .local := hy
  have hb : env.blockKind = .function := by unfold Env.blockKind; rw [hk]; rfl
  simp only [swapsWith, hb, ky, ha, Expr.pos, hl]
  rfl
end
end Y0
set_option maxHeartbeats 4000000
/-! enumerate of a tuple -/
namespace Y0
open PySem PySem.Spec PyProof.Rows L2

/-- enumerate(v), v anything whose iterator is one new object -/
theorem enum_new {v : Value} {o : Obj} {G : Heap → Prop} (B : Begins v o G) :
    Meets (Builtin.«enumerate.__new__» ⟨[.type "enumerate", v], []⟩) (fun _ R s => G s.heap ∧
      R (.ok (.ret (.ref (s.heap.push o).objs.size))) { s with heap := (s.heap.push o).push { cls := .type "enumerate", data := .fields #[.none, .bool false, .ref s.heap.objs.size, rawInt 0, .none, .none] } }) :=
  .of_wp fun prog w A R s h => by
    obtain ⟨hp, g, d, tk, os⟩ := s
    obtain ⟨h1, h⟩ := h
    have hsub := sub_enumerate
    have q1 : ∀ {A' : Around} {E : Value → Shared → Prop} {Q : Value → Shared → Prop}, Q (.ref hp.objs.size) ⟨hp.push o, g, d, tk, os⟩ → wpAny (model prog w) A' (pyIter v) Q E ⟨hp, g, d, tk, os⟩ :=
      fun q => B.iter prog w _ _ ⟨hp, g, d, tk, os⟩ _ h1 q
    wp_walk using q1
    refine wpAny_stack_any fun st => wpAny_pure ?_
    split
    · rename_i c _ _ _ _ _
      cases (c == Value.type "enumerate") <;> (wp_walk using q1; exact ⟨_, rfl, h⟩)
    · wp_walk using q1
      exact ⟨_, rfl, h⟩
section
variable {prog : Program} {w : World} {A : Around} {E : Value → Shared → Prop} {s : Shared}
theorem enum_call {v : Value} {o : Obj} {G : Heap → Prop} {Q : Value → Shared → Prop} (B : Begins v o G) (h1 : G s.heap)
    (h : ∀ h', IsEnum h' (s.heap.objs.size + 1) s.heap.objs.size 0 .none → h'.get? s.heap.objs.size = some o → (∀ b o, s.heap.get? b = some o → h'.get? b = some o) → Q (.ref (s.heap.objs.size + 1)) { s with heap := h' }) :
    wpAny (model prog w) A (call (.type "enumerate") [v]) Q E s := by
  refine callType_new F.called_enumerate (by decide) (F.typeCall_enumerate_1 _) (F.newCall_enumerate_1 _) (fun obj => F.args_object_init_2 obj _) F.entry_enumerate_new (enum_new B) ⟨h1, ?_⟩
  have hz : (s.heap.push o).objs.size = s.heap.objs.size + 1 := Heap.size_push ..
  have he := Heap.get?_push_size (s.heap.push o) (o := { cls := .type "enumerate", data := .fields #[.none, .bool false, .ref s.heap.objs.size, rawInt 0, .none, .none] }) rfl
  rw [hz] at he
  refine ⟨?_, ?_⟩
  · rw [hz]; exact ⟨_, he, rfl⟩
  · rw [hz]; exact h _ he (Heap.get?_push_of_some _ (Heap.get?_push_size _ B.free)) fun b o x => Heap.get?_push_of_some _ (Heap.get?_push_of_some _ x)
end
/-- the tuple at a, each item in a new pair with its number -/
def Itet (K : PySem.W.Frag) (a : Addr) : It :=
  ⟨fun i H => ∃ (xs : List V) (x : V), SqT K H a xs ∧ xs[i]? = some x, fun i H v H' => ∃ T x, v = .ref T ∧ H T = none ∧ H' = upd H T (.tup [.int (i : Nat), x]) ∧ ∀ xs, SqT K H a xs → xs[i]? = some x, fun i H => ∃ xs : List V, SqT K H a xs ∧ xs.length = i⟩
theorem turn_enumT {P : Program} {w : World} {K : PySem.W.Frag} {elts : List Expr} {kk : Nat} {tpos : Pos} (a e it : Addr) :
    Turn P w K (.Tuple elts kk tpos) (Itet K a) [e, it] e (fun i h => (∃ old, IsEnum h e it ((i : Nat) : Int) old) ∧ h.IsTupleIter it a i ∧ e ≠ it ∧ a ≠ it ∧ a ≠ e) where
  mem := by simp
  obj := fun i h st b hb => by
    obtain ⟨⟨old, he⟩, ⟨o, ho, hc, hd⟩, _⟩ := st
    rcases (show b = e ∨ b = it by simpa using hb) with z | z
    · rw [z]; exact ⟨_, he, fun v q => nomatch q⟩
    · rw [z]; exact ⟨o, ho, fun v q => by rw [hd] at q; cases q⟩
  keep := fun i h h' st k => let ⟨⟨old, he⟩, hi, hne⟩ := st; ⟨⟨old, k e (by simp) _ he⟩, hi.at fun o q => k it (by simp) o q, hne⟩
  item := by
    intro X hP hw hK hc i pins s σ H E I hf st hg
    subst hP hw hK
    obtain ⟨⟨old, he⟩, hit, hne, hai, hae⟩ := st
    obtain ⟨xs, x, hq, hx⟩ := hg
    obtain ⟨its, rv, p, hz⟩ := I.tuple hq
    obtain ⟨u, hu, ru⟩ := rv.get hx
    have hel : e < s.heap.objs.size := Heap.lt_size he
    have hil : it < s.heap.objs.size := by obtain ⟨_, q, _⟩ := hit; exact Heap.lt_size q
    have hlen : i < its.toArray.size := by
      obtain ⟨z, _⟩ := List.getElem?_eq_some_iff.mp hu
      simpa using z
    have DD := Draws.tuple (prog := X.prog) (w := X.w) (A := X.A.in1) (I.ok.hd hc) it a hai its.toArray
    refine wpAny_pyNext_enum_itemD DD he ⟨hit, p⟩ hlen hne (by simp [hne, Ne.symm hae]) fun x' h' tk hx' ho st' hT hsz hk => ?_
    obtain rfl : x' = u := by
      have : some x' = some u := by rw [← hu]; simpa using hx'.symm
      exact Option.some.inj this
    refine ⟨_, rfl, wpAny_letOwnedTupleGo_enum (s := { s with heap := h', toks := tk + 1 }) ho fun h'' he' sb => ?_⟩
    have hT2 : h''.get? s.heap.objs.size = some { cls := .type "tuple", data := .seq #[.int i tk, x'] } := (sb.2 _ (Nat.ne_of_gt hel)).trans hT
    have new : ObjOk X.prog X.w (upd H s.heap.objs.size (.tup [.int (i : Nat), x])) h'' s.heap.objs.size (.tup [.int (i : Nat), x]) :=
      ⟨by show 2 ≤ sizeLine; decide, [.int i tk, x'], .cons ⟨_, rfl⟩ (.cons ru .nil), ⟨_, hT2, rfl, _, rfl⟩⟩
    have I1 : Inv X pins σ (upd H s.heap.objs.size (.tup [.int (i : Nat), x])) { s with heap := h'', toks := tk + 1 } :=
      I.turnedNew (ch := [e, it]) (fun b ob hb q => (sb.2 b (fun z => hb (by simp [z]))).trans (hk b ob (fun z => hb (by simp [z])) (fun z => hb (by simp [z])) q)) hf (Nat.le_refl _) new
    refine ⟨.ref s.heap.objs.size, _, I1, rfl, ⟨_, x, rfl, I.hok.fresh (Nat.le_refl _), rfl, fun ys hy => by rw [I.tuple_inj hy hq]; exact hx⟩, ⟨⟨x', ?_⟩, st'.1.at fun o q => (sb.2 it (Ne.symm hne)).trans q, hne, hai, hae⟩, fun b hb => ?_⟩
    · have e1 : ((i + 1 : Nat) : Int) = (i : Int) + 1 := by omega
      rw [e1]; exact he'
    · have hb' : b < s.heap.objs.size := by
        rcases (show b = e ∨ b = it by simpa using hb) with z | z
        · exact z ▸ hel
        · exact z ▸ hil
      rw [upd_ne (Nat.ne_of_lt hb')]
      exact (hf b hb).1
  done := by
    intro X hP hw hK hc i pins s σ H E I hf st hg
    subst hP hw hK
    obtain ⟨⟨old, he⟩, hit, hne, hai, hae⟩ := st
    obtain ⟨xs, hq, hx⟩ := hg
    obtain ⟨its, rv, p, hz⟩ := I.tuple hq
    obtain ⟨f0, f1, f2, f3, f4, f5⟩ := hf it (by simp)
    have hl := rv.length
    have DD := Draws.tuple (prog := X.prog) (w := X.w) (A := X.A.in1) (I.ok.hd hc) it a hai its.toArray
    refine wpAny_pyNext_enum_endD DD he (show _ ∧ _ from ⟨?_, p⟩) fun h' eb => ⟨rfl, I.turned (t' := s.toks) (fun b o hb q => eb b o hb q) f0 f1 f3 f4 f5⟩
    rw [show its.toArray.size = i by rw [List.size_toArray, ← hl, hx]]
    exact hit
  self := fun A i s Q E st h => let ⟨⟨_, he⟩, _⟩ := st; wpAny_pyIter_enum he h
section
variable {X : Cx} {e : Expr} {ta : TA} {p pos tpos : Pos} {elts : List Expr} {kk : Nat}
def iEnumT (K : PySem.W.Frag) (ta : TA) : TI := fun σ H R => ta σ H fun vs H1 => ∃ a xs, vs = [.ref a] ∧ SqT K H1 a xs ∧ R (Itet K a) H1
theorem pi_enumT (hg : Gl X "enumerate") (hm : X.mg "enumerate" = none) (ha : PA X [e] ta) (hs : starEach [e] X.env = [(false, eval e X.env)]) : PI X (.Tuple elts kk tpos) (.Call (.Name "enumerate" p) [e] [] pos) (iEnumT X.K ta) := by
  constructor
  intro pins s σ H R I h
  refine Call_ (ld_blt I hg hm boot_enumerate (PyProof.Rows.callWith_type1 (thn (ha.run pos pins s σ H _ I h) ?_) hs rfl))
  rintro us s1 ⟨vs, H1, I1, r1, a, xs, rfl, hq, q⟩
  obtain ⟨u, rfl, r⟩ := r1.one
  cases r
  obtain ⟨its, rv, p', hz⟩ := I1.tuple hq
  have hp : s1.heap.IsTuple a its.toArray := p'
  have la : a < s1.heap.objs.size := let ⟨_, z, _⟩ := hp; Heap.lt_size z
  refine enum_call (begins_tuple a its.toArray) hp fun h' he hit hk => wpAny_pyIter_enum he ?_
  have I2 : Inv X pins σ H1 { s1 with heap := h' } := I1.kept (t' := s1.toks) hk
  refine ⟨s1.heap.objs.size + 1, [s1.heap.objs.size + 1, s1.heap.objs.size], _, _, H1, rfl, I2, turn_enumT a (s1.heap.objs.size + 1) s1.heap.objs.size, ⟨⟨.none, he⟩, ⟨_, hit, rfl, rfl⟩, Nat.succ_ne_self _, Nat.ne_of_lt la, Nat.ne_of_lt (Nat.lt_succ_of_lt la)⟩, fun b hb => ?_, q⟩
  have hle : s1.heap.objs.size ≤ b := by
    rcases (show b = s1.heap.objs.size + 1 ∨ b = s1.heap.objs.size by simpa using hb) with z | z
    · rw [z]; exact Nat.le_add_right _ _
    · rw [z]; exact Nat.le_refl _
  exact I1.fpOk hle (I1.hok.fresh hle)
end
end Y0
set_option maxHeartbeats 4000000
/-! sorted of a dict with pairs as keys -/
namespace Y0
open PySem PySem.Spec PyProof.Rows PySem.W PySem.Calls L2

section
variable {X : Cx}
theorem keys_acc {prog : Program} {w : World} {es : Array DictEntry} {ks : List (List Key × Addr × Value)} {acc : Array Value} (he : es.toList = ks.map (entryOfKey (tupleKind (mixKind prog w))))
    (it : ItemsOf (fun i v => ∃ en : DictEntry, es[i]? = some en ∧ v = en.key) acc es.size) : acc.toList = (ks.map fun x => x.2.1).map Value.ref := by
  apply List.ext_getElem?
  intro j
  cases hj : acc.toList[j]? with
  | none =>
    have h1 := List.getElem?_eq_none_iff.mp hj
    rw [Array.length_toList, it.1, ← Array.length_toList, he, List.length_map] at h1
    exact (List.getElem?_eq_none (by simpa using h1)).symm
  | some v =>
    obtain ⟨en, hen, rfl⟩ := it.2 j v (by rw [← Array.getElem?_toList]; exact hj)
    rw [← Array.getElem?_toList, he, List.getElem?_map] at hen
    obtain ⟨x, hx, rfl⟩ := Option.map_eq_some_iff.mp hen
    rw [List.getElem?_map, List.getElem?_map, hx]
    rfl
theorem isPair_of {P : Program} {w : World} {H : Hp} {h : Heap} {b : Addr} {i j : Int} (ok : HOk P w H h) (e : H b = some (.tup [.int i, .int j])) : Srt.IsPair h (.ref b) i j := by
  obtain ⟨_, its, r, o, ho, hc, n, hd⟩ := ok _ _ e
  obtain ⟨u1, u2, rfl, ⟨t1, rfl⟩, ⟨t2, rfl⟩⟩ := vals2 r
  exact ⟨b, o, t1, t2, n, rfl, ho, hc, hd⟩
theorem kt_mem {H : Hp} : ∀ {kvs : List (List Key × V)} {ks : List (List Key × Addr × Value)} {x : List Key × Addr × Value}, KT H kvs ks → x ∈ ks → ∃ p ∈ kvs, p.1 = x.1 ∧ H x.2.1 = some (.tup (p.1.map kV))
  | _, _, x, .nil, h => by cases h
  | a :: as, b :: bs, x, .cons hq t, h => by
    rcases List.mem_cons.mp h with rfl | z
    · exact ⟨a, List.mem_cons_self, hq.1, hq.2.1⟩
    · obtain ⟨p, h1, h2⟩ := kt_mem t z
      exact ⟨p, List.mem_cons_of_mem _ h1, h2⟩
def unref : Value → Addr
  | .ref a => a
  | _ => 0
theorem refs_perm {out : List Value} {bs : List Addr} (h : out.Perm (bs.map Value.ref)) : out = (out.map unref).map Value.ref ∧ (out.map unref).Perm bs := by
  refine ⟨?_, by simpa [Function.comp_def, unref] using h.map unref⟩
  have : ∀ v ∈ out, Value.ref (unref v) = v := fun v hv => by
    obtain ⟨b, _, rfl⟩ := List.mem_map.mp (h.mem_iff.mp hv)
    rfl
  rw [List.map_map]
  clear h
  induction out with
  | nil => rfl
  | cons v r ih =>
    rw [List.map_cons, ← ih fun v m => this v (List.mem_cons_of_mem _ m)]
    show v :: r = Value.ref (unref v) :: r
    rw [this v List.mem_cons_self]
/-- sorted(d), d's keys pairs of whole numbers: a new list of the keys in some order -/
def rSortedT : List V → Hp → VK → Prop := fun xs H Q => ∃ (d : Addr) (kvs : List (List Key × V)), xs = [.ref d] ∧ Rd H d (.dT kvs) ∧ (∀ p ∈ kvs, ∃ i j : Int, p.1 = [Sum.inl i, Sum.inl j]) ∧
  ∀ (p : Addr) (bs cs : List Addr), H p = none → IsKeys H kvs bs → cs.Perm bs → Q (.ref p) (upd H p (.lst (cs.map V.ref)))
theorem cr_sortedT (hc : X.calm = true) : CallR X (.builtin "sorted") rSortedT := by
  rintro pins s σ H _ us Q I r ⟨d, kvs, rfl, hd, hp, q⟩
  obtain ⟨u, rfl, ru⟩ := vals1 r
  cases ru
  obtain ⟨z, hs, ks, pr, o, es, ep, ho, hx, hdt, he, hn⟩ := (show ObjOk X.prog X.w H s.heap d (.dT kvs) from hd.ok I.hok)
  have l1 : es.size = ks.length := size_of_entries he
  have l2 : kvs.length = ks.length := Paired.length pr
  refine call_function_entry kind_sorted plain_sorted entry_sorted (args_sorted1 _) ?_
  unfold Builtin.«sorted»
  refine wpAny_bind (m := checkCount "sorted" 1 1 _) (wpAny_pure ?_)
  refine wpAny_bind (kdu_collect (A := X.A.in1) (kdl_raw hs hx hdt) (I.ok.hd hc) ho (by omega) fun h' tk acc hk it => ?_)
  have ea := keys_acc he it
  have lz : acc.toList.length ≤ sizeLine := by rw [ea, List.length_map, List.length_map]; omega
  have I1 : Inv X pins σ H { s with heap := h', toks := tk } := I.kept hk
  refine wpAny_bind (wpAny_newList ?_ lz)
  have hL : (h'.push (seqObj "list" acc.toList.toArray 0)).get? h'.objs.size = some (seqObj "list" acc.toList.toArray 0) := Heap.get?_push_size _ rfl
  obtain ⟨vs, ev⟩ : ∃ vs, acc.toList = vs := ⟨_, rfl⟩
  rw [ev] at hL lz ⊢
  rw [ev] at ea
  have keep : ∀ b ob, h'.get? b = some ob → b ≠ h'.objs.size ∧ (h'.push (seqObj "list" vs.toArray 0)).get? b = some ob := fun b ob e => ⟨Nat.ne_of_lt (Heap.lt_size e), Heap.get?_push_of_some _ e⟩
  have pairs : ∀ v ∈ vs, ∃ x y, Srt.IsPair (h'.push (seqObj "list" vs.toArray 0)) v x y := fun v hv => by
    rw [ea] at hv
    obtain ⟨b, hb, rfl⟩ := List.mem_map.mp hv
    obtain ⟨x, hx2, rfl⟩ := List.mem_map.mp hb
    obtain ⟨p, hp1, hp2, hp3⟩ := kt_mem pr hx2
    obtain ⟨i, j, e⟩ := hp p hp1
    rw [e] at hp3
    exact ⟨i, j, (isPair_of I1.hok hp3).keeps fun b ob e _ => (keep b ob e).2⟩
  refine wpAny_bind (wpAny_holding (wpAny_call_entry slot_list_sort ⟨_, hL, rfl⟩ entry_list_sort (Srt.list_sort_any hL lz (fun h2 => Srt.pairs_sortable (by omega) pairs fun o e => ?_) fun out hq => ⟨_, rfl, ?_⟩) (args_list_sort _)))
  · rw [hL] at e
    cases e
    exact fun c => absurd (Value.type.inj c) (by decide)
  refine wpAny_pure ⟨_, rfl, ?_⟩
  rw [ea] at hq
  obtain ⟨e1, e2⟩ := refs_perm hq
  obtain ⟨n, hn2⟩ := sortedHeap_at (out := out.toArray) hL
  have kk : ∀ b ob, h'.get? b = some ob → (sortedHeap (h'.push (seqObj "list" vs.toArray 0)) h'.objs.size vs out.toArray).get? b = some ob := fun b ob e => by
    have hb := Heap.lt_size e
    rw [sortedHeap_old (Nat.ne_of_lt hb) (by rw [Heap.size_push]; exact Nat.lt_succ_of_lt hb)]
    exact Heap.get?_push_of_some _ e
  have rv : Vals ((out.map unref).map V.ref) out := by
    rw [e1]; simpa [Function.comp_def, unref] using vals_refs (out.map unref)
  have hz2 : ((out.map unref).map V.ref).length ≤ sizeLine := by
    rw [List.length_map, e2.length_eq, List.length_map]; omega
  refine ⟨.ref h'.objs.size, upd H h'.objs.size (.lst ((out.map unref).map V.ref)), I1.laid (t' := tk) kk (Nat.le_refl _) ⟨hz2, out, n, rv, hn2⟩, rfl, q _ _ _ (I1.hok.fresh (Nat.le_refl _)) (isKeys_of pr) e2⟩
end
end Y0
set_option maxHeartbeats 4000000
/-! dict(pairs), the keys tuples -/
namespace Y0
open PySem PySem.Spec PyProof.Rows PySem.Calls L2

theorem storedAll_new {K : Type} [DecidableEq K] : ∀ (ps xs : List (K × Addr × Value)), (∀ x ∈ xs, ∀ p ∈ ps, x.1 ≠ p.1) → (ps.map (·.1)).Nodup → storedAllH xs ps = xs ++ ps
  | [], xs, _, _ => by simp [storedAllH]
  | p :: ps, xs, h, hn => by
    obtain ⟨h1, h2⟩ := List.nodup_cons.mp hn
    have e : storedH xs p.1 p.2.1 p.2.2 = xs ++ [p] := by
      unfold storedH
      have q : atKey xs p.1 = none := by
        unfold atKey
        rw [Option.map_eq_none_iff, List.find?_eq_none]
        intro x hx
        simpa using h x hx p List.mem_cons_self
      rw [q]
      simp
    have ih := storedAll_new ps (xs ++ [p]) (fun x hx q hq => ?_) h2
    · show storedAllH xs (p :: ps) = _
      unfold storedAllH at ih ⊢
      rw [List.foldl_cons, e, ih]
      simp
    · rcases List.mem_append.mp hx with z | z
      · exact h x z q (List.mem_cons_of_mem _ hq)
      · rw [List.mem_singleton.mp z]
        exact fun z => h1 (by show p.1 ∈ _; rw [z]; exact List.mem_map_of_mem hq)
abbrev Row := Addr × Addr × List Key × V
section
variable {X : Cx} {pins : List (Addr × Obj)} {σ : L2.St} {H : Hp} {s : Shared}
theorem rows_vals (I : Inv X pins σ H s) : ∀ rows : List Row, (∀ r ∈ rows, H r.1 = some (.tup [.ref r.2.1, r.2.2.2]) ∧ H r.2.1 = some (.tup (r.2.2.1.map kV))) →
    ∃ us : List Value, Paired (fun (r : Row) u => RelV r.2.2.2 u ∧ s.heap.IsTuple r.1 #[.ref r.2.1, u]) rows us
  | [], _ => ⟨[], .nil⟩
  | r :: rows, h => by
    obtain ⟨us, hu⟩ := rows_vals I rows fun q m => h q (List.mem_cons_of_mem _ m)
    obtain ⟨_, its, rv, ht⟩ := (show ObjOk X.prog X.w H s.heap r.1 (.tup [.ref r.2.1, r.2.2.2]) from I.hok _ _ (h r List.mem_cons_self).1)
    obtain ⟨u1, u2, rfl, r1, r2⟩ := vals2 rv
    cases r1
    exact ⟨u2 :: us, .cons ⟨r2, ht⟩ hu⟩
theorem paired_get {α β : Type} {R : α → β → Prop} : ∀ {xs : List α} {ys : List β} {i : Nat} {x : α}, Paired R xs ys → xs[i]? = some x → ∃ y, ys[i]? = some y ∧ R x y
  | [], _, i, x, .nil, e => by simp at e
  | a :: xs, b :: ys, 0, x, .cons h t, e => ⟨b, rfl, by simp at e; exact e ▸ h⟩
  | a :: xs, b :: ys, i + 1, x, .cons h t, e => by
    obtain ⟨y, h1, h2⟩ := paired_get (i := i) t (by simpa using e)
    exact ⟨y, by simpa using h1, h2⟩
def rDictPT (K : PySem.W.Frag) : List V → Hp → VK → Prop := fun xs H Q => ∃ (a : Addr) (rows : List Row), xs = [.ref a] ∧ SqL K H a (rows.map fun r => V.ref r.1) ∧
  (∀ r ∈ rows, H r.1 = some (.tup [.ref r.2.1, r.2.2.2]) ∧ H r.2.1 = some (.tup (r.2.2.1.map kV))) ∧ (rows.map (·.2.2.1)).Nodup ∧ ∀ p, H p = none → Q (.ref p) (upd H p (.dT (rows.map (·.2.2))))
theorem call_dictPT (hc : X.calm = true) (hu : X.A.units + 2 < cLine) : CallR X (.type "dict") (rDictPT X.K) := by
  rintro pins s σ H _ us0 Q I r ⟨a, rows, rfl, hs, hr, hn, q⟩
  obtain ⟨u, rfl, ru⟩ := vals1 r
  cases ru
  obtain ⟨its, rv, pl, hz⟩ := I.list hs
  obtain ⟨us, hp⟩ := rows_vals I rows hr
  have hl : rows.length = us.length := Paired.length hp
  have hl2 : rows.length = its.length := by simpa using rv.length
  have hz' : rows.length ≤ sizeLine := by simpa using hz
  obtain ⟨o, n, ho, hcl, hd, hdat⟩ := pl
  let ps : List (Value × Value) := (rows.zip us).map fun z => (Value.ref z.1.2.1, z.2)
  let Ts : Nat → Addr := fun j => ((rows[j]?).map (·.1)).getD 0
  let xs : List (List Key × Addr × Value) := (rows.zip us).map fun z => (z.1.2.2.1, z.1.2.1, z.2)
  have lps : ps.length = rows.length := by simp [ps, hl]
  have lxs : xs.length = rows.length := by simp [xs, hl]
  have at_ : ∀ (j : Nat) (r : Row) (u : Value), rows[j]? = some r → us[j]? = some u → ps[j]? = some (Value.ref r.2.1, u) ∧ xs[j]? = some (r.2.2.1, r.2.1, u) := fun j r u h1 h2 => by
    have : (rows.zip us)[j]? = some (r, u) := by rw [List.getElem?_zip_eq_some]; exact ⟨h1, h2⟩
    exact ⟨by simp only [ps, List.getElem?_map, this, Option.map_some], by simp only [xs, List.getElem?_map, this, Option.map_some]⟩
  have get : ∀ j (p : Value × Value), ps[j]? = some p → ∃ (r : Row) (u : Value), rows[j]? = some r ∧ us[j]? = some u ∧ p = (Value.ref r.2.1, u) ∧ s.heap.IsTuple r.1 #[.ref r.2.1, u] := fun j p e => by
    have hj : j < rows.length := by rw [← lps]; exact (List.getElem?_eq_some_iff.mp e).1
    have e1 : rows[j]? = some rows[j] := List.getElem?_eq_getElem hj
    obtain ⟨u, e2, _, e3⟩ := paired_get hp e1
    rw [(at_ j _ u e1 e2).1] at e
    exact ⟨_, u, e1, e2, (Option.some.inj e).symm, e3⟩
  have PA := PairArg.list (prog := X.prog) (w := X.w) a its.toArray Ts ps
  have ok : PlainSeq "list" s.heap a its.toArray ∧ PairItems s.heap its.toArray Ts ps := by
    refine ⟨⟨o, n, ho, hcl, hd, hdat⟩, by rw [List.size_toArray, ← hl2, lps], fun j k v e => ?_⟩
    obtain ⟨r, u, e1, e2, e3, e4⟩ := get j _ e
    cases e3
    have tj : Ts j = r.1 := by simp [Ts, e1]
    refine ⟨?_, .inl (by rw [tj]; exact e4)⟩
    obtain ⟨v', w1, w2⟩ := rv.get (i := j) (x := V.ref r.1) (by rw [List.getElem?_map, e1]; rfl)
    cases w2
    rw [tj]
    simpa using w1
  have keys : ∀ x ∈ xs, ∃ r ∈ rows, x.1 = r.2.2.1 ∧ x.2.1 = r.2.1 := fun x hx => by
    obtain ⟨z, hz2, rfl⟩ := List.mem_map.mp hx
    exact ⟨z.1, (List.of_mem_zip hz2).1, rfl, rfl⟩
  have nd : (xs.map (·.1)).Nodup := by
    have : xs.map (·.1) = rows.map (·.2.2.1) := by
      simp only [xs, List.map_map]
      rw [show ((fun x : List Key × Addr × Value => x.1) ∘ fun z : Row × Value => (z.1.2.2.1, z.1.2.1, z.2)) = (fun r : Row => r.2.2.1) ∘ Prod.fst from rfl, ← List.map_map, List.map_fst_zip (by omega)]
    rw [this]; exact hn
  have rel : KT H (rows.map (·.2.2)) xs := by
    clear PA ok get at_ keys nd lps lxs hl2 rv q hs hn hz hz'
    show Paired _ _ ((rows.zip us).map _)
    clear hl xs ps Ts
    induction hp with
    | nil => exact .nil
    | @cons r u rs us' h t ih =>
      exact .cons ⟨rfl, (hr r List.mem_cons_self).2, h.1⟩ (ih fun q m => hr q (List.mem_cons_of_mem _ m))
  have st : KeysStay (tupleKind (mixKind X.prog X.w)) s.heap s.heap.objs.size [] xs := fun h' hk x hx => by
    obtain ⟨r, hr1, e1, e2⟩ := keys x hx
    obtain ⟨o', its', n', g1, g2, g3, g4⟩ := key_of I.hok (hr r hr1).2
    rw [e1, e2]
    refine (tupleKind_stays (knd := mixKind X.prog X.w)).stays (fun b o _ _ e _ => hk b o (Nat.ne_of_lt (Heap.lt_size e)) (fun z => nomatch z) e) (key_of I.hok (hr r hr1).2)
  refine call_dict_pairsH (ps := xs) PA (I.ok.hd hc) (by show X.A.units + 1 + 1 < cLine; omega) ok ⟨by rw [lxs, lps], fun i key v e => ?_⟩ st (by rw [lps]; exact hz') fun h' tk dd hk => ?_
  · obtain ⟨r, u, e1, e2, e3, e4⟩ := get i _ e
    cases e3
    exact ⟨r.2.2.1, r.2.1, (at_ i r v e1 e2).2, rfl⟩
  · rw [storedAll_new xs [] (fun x hx => nomatch hx) nd, List.nil_append] at dd
    obtain ⟨q', es, ep, hq, h2, h3, h4, _, h5⟩ := dd
    have hm : (s.heap.objs.size == sysModules) = false := beq_eq_false_iff_ne.mpr (Nat.ne_of_gt I.big)
    refine ⟨.ref s.heap.objs.size, _, I.laid (t' := tk) (o := .dT (rows.map (·.2.2))) (fun b u e => hk b u (fun z => nomatch z) e) (Nat.le_refl _) ⟨by rw [List.length_map]; exact hz', hm, xs, rel.keeps fun b ys e => ?_, q', es, ep, hq, h2, h3, h4, h5⟩, rfl, q _ (I.hok.fresh (Nat.le_refl _))⟩
    rw [upd_ne (ne_of_none e (I.hok.fresh (Nat.le_refl _)))]
    exact e
end
end Y0
set_option maxHeartbeats 4000000
/-! dicts with tuple keys that hold the same -/
namespace Y0
open PySem PySem.Spec PyProof.Rows PySem.Calls L2
section
variable {prog : Program} {w : World} {K : Type} [DecidableEq K] {knd : HeapKind prog w K} {A : Around} {E : Value → Shared → Prop} {s : Shared}
theorem samePairsT {nm : String} {a b : Addr} {ka kb : List (K × Addr × Value)} {Q : Bool → Shared → Prop} (ha : (a == sysModules) = false) (hb : (b == sysModules) = false) (hu : knd.room A)
    (da : s.heap.DictOfH knd a ka) (db : s.heap.DictOfH knd b kb) (hl : ka.length = kb.length) (hits : ∀ x ∈ ka, ∃ (j : Nat) (p : Addr × Value), kb[j]? = some (x.1, p) ∧ SeqAt.EqAt A s x.2.2 p.2 true) (h : Q true s) :
    wpAny (model prog w) A (Builtin.Dict.samePairs nm a b) Q E s := by
  obtain ⟨oa, es, ep, hoa, _, hda, hka, hia, _⟩ := da
  obtain ⟨ob, es', ep', hob, _, hdb, hkb, hib, hnb⟩ := db
  have la : es.size = ka.length := size_of_entries hka
  have lb : es'.size = kb.length := size_of_entries hkb
  unfold Builtin.Dict.samePairs Builtin.Dict.showsAll
  rw [if_neg (show ¬ (a == sysModules) = true by rw [ha]; decide), if_neg (show ¬ (b == sysModules) = true by rw [hb]; decide)]
  refine wpAny_bind (wpAny_pure (wpAny_bind (wpAny_pure (wpAny_bind (wpAny_dictEntries hoa hda ?_)))))
  dsimp only
  refine wpAny_bind (wpAny_dictEntries hob hdb ?_)
  rw [if_neg (by rw [la, lb, hl]; simp)]
  refine wpAny_bind (wpAny_dictEpoch hoa hda (wpAny_bind ?_))
  rw [Std.Legacy.Range.forIn_eq_forIn_range']
  simp only [Std.Legacy.Range.size, Nat.sub_zero, Nat.add_sub_cancel, Nat.div_one]
  refine wpAny_forIn_list _ (fun rest q s' => s' = s ∧ q = (none, ()) ∧ ∃ i, rest = List.range' i (es.size - i) ∧ i ≤ es.size) _ ?_ ?_ _ _ ⟨rfl, rfl, 0, by simp, Nat.zero_le _⟩
  · rintro x rest q s' ⟨rfl, rfl, i, hr, hi⟩
    have hlt : i < es.size := by
      rcases Nat.lt_or_ge i es.size with h | h
      · exact h
      · rw [Nat.sub_eq_zero_of_le h] at hr; simp at hr
    obtain ⟨rfl, hrest⟩ : x = i ∧ rest = List.range' (i + 1) (es.size - (i + 1)) := by
      rw [show es.size - i = (es.size - (i + 1)) + 1 by omega, List.range'_succ] at hr
      injection hr with h1 h2
      exact ⟨h1, h2⟩
    refine wpAny_bind (wpAny_dictEntries hoa hda ?_)
    have hx : x < ka.length := by omega
    have ex : es[x] = entryOfKey knd ka[x] := by
      have e := entry_at hka x
      rw [Array.getElem?_eq_getElem hlt, List.getElem?_eq_getElem hx] at e
      exact Option.some.inj e
    rw [Array.getElem?_eq_getElem hlt, ex]
    obtain ⟨j, p, hj, heq⟩ := hits ka[x] (List.getElem_mem hx)
    refine wpAny_bind (wpAny_holding (wpAny_bind (PySem.wpAny_dictFind_heap hu (hia _ (List.getElem_mem hx)) hob hdb hkb hib hnb (fun hno => absurd hj (hno j p)) fun j' p' hj' => ?_)))
    obtain rfl : j' = j := idxH_unique hnb hj' hj
    rw [hj] at hj'
    cases hj'
    refine wpAny_bind (wpAny_dictEntries hob hdb ?_)
    rw [entry_at hkb j', hj]
    refine wpAny_holding (heq prog w _ _ ?_)
    show wpAny _ _ (if (!true) = true then _ else _) _ _ _
    rw [if_neg (by decide)]
    refine wpAny_bind (wpAny_dictEpoch hoa hda ?_)
    rw [if_neg (by simp)]
    exact wpAny_pure ⟨rfl, rfl, x + 1, hrest, hlt⟩
  · rintro q s' ⟨rfl, rfl, _⟩
    exact wpAny_pure h
theorem neT {a b : Addr} {ka kb : List (K × Addr × Value)} {Q : Value → Shared → Prop} (ha : (a == sysModules) = false) (hb : (b == sysModules) = false) (hu : A.units < cLine) (hr : knd.room A.in1)
    (da : s.heap.DictOfH knd a ka) (db : s.heap.DictOfH knd b kb) (hl : ka.length = kb.length) (hits : ∀ x ∈ ka, ∃ (j : Nat) (p : Addr × Value), kb[j]? = some (x.1, p) ∧ SeqAt.EqAt A.in1 s x.2.2 p.2 true) (h : Q (.bool false) s) :
    wpAny (model prog w) A (compareOp .NotEq (.ref a) (.ref b)) Q E s := by
  refine wpAny_richCompare_same_room (op := .NotEq) da.typeIs db.typeIs PySem.F.slot_dict_ne (wpAny_call_entry PySem.F.slot_dict_ne da.typeIs PySem.F.entry_dict_ne ?_ (PySem.F.args_dict_ne_2 _ _)) hu
  show wpAny _ _ (Builtin.Dict.dictSlotArgs "__ne__" ⟨[.ref a, .ref b], []⟩ >>= _) _ _ s
  unfold Builtin.Dict.dictSlotArgs
  refine wpAny_bind (wpAny_bind (wpAny_notOrdered_dict da.typeIs (wpAny_pure ?_)))
  refine wpAny_bind (wpAny_isInstance (T := "dict") db.typeIs PySem.F.sub_dict_dict ?_)
  simp only [Bool.not_true, Bool.false_eq_true, if_false]
  refine wpAny_bind (wpAny_pure (wpAny_bind (wpAny_pure (wpAny_bind (samePairsT ha hb hr da db hl hits (wpAny_pure ⟨_, rfl, ⟨(fun z => nomatch z), ?_⟩⟩))))))
  simpa using h
theorem eqT {a b : Addr} {ka kb : List (K × Addr × Value)} {Q : Value → Shared → Prop} (ha : (a == sysModules) = false) (hb : (b == sysModules) = false) (hu : A.units < cLine) (hr : knd.room A.in1)
    (da : s.heap.DictOfH knd a ka) (db : s.heap.DictOfH knd b kb) (hl : ka.length = kb.length) (hits : ∀ x ∈ ka, ∃ (j : Nat) (p : Addr × Value), kb[j]? = some (x.1, p) ∧ SeqAt.EqAt A.in1 s x.2.2 p.2 true) (h : Q (.bool true) s) :
    wpAny (model prog w) A (compareOp .Eq (.ref a) (.ref b)) Q E s := by
  refine wpAny_richCompare_same_room (op := .Eq) da.typeIs db.typeIs PySem.F.slot_dict_eq (wpAny_call_entry PySem.F.slot_dict_eq da.typeIs PySem.F.entry_dict_eq ?_ (PySem.F.args_dict_eq_2 _ _)) hu
  show wpAny _ _ (Builtin.Dict.dictSlotArgs "__eq__" ⟨[.ref a, .ref b], []⟩ >>= _) _ _ s
  unfold Builtin.Dict.dictSlotArgs
  refine wpAny_bind (wpAny_bind (wpAny_notOrdered_dict da.typeIs (wpAny_pure ?_)))
  refine wpAny_bind (wpAny_isInstance (T := "dict") db.typeIs PySem.F.sub_dict_dict ?_)
  simp only [Bool.not_true, Bool.false_eq_true, if_false]
  refine wpAny_bind (wpAny_pure (wpAny_bind (wpAny_pure (wpAny_bind (samePairsT ha hb hr da db hl hits (wpAny_pure ⟨_, rfl, ⟨(fun z => nomatch z), ?_⟩⟩))))))
  simpa using h
end
section
variable {X : Cx} {pins : List (Addr × Obj)} {σ : L2.St} {H : Hp} {s : Shared}
/-- two dicts with tuple keys hold the same -/
def SameDT (K : PySem.W.Frag) (H : Hp) (ks ls : List (List Key × V)) : Prop := ks.length = ls.length ∧ ∀ p ∈ ks, ∃ v d e, valV ls p.1 = some v ∧ Dp K H p.2 d ∧ Dp K H v e ∧ SeqAt.shaped d = true ∧ SeqAt.shaped e = true ∧ PyData.eqv d e = true
theorem kt_mem2 {H : Hp} : ∀ {kvs : List (List Key × V)} {xs : List (List Key × Addr × Value)} {x : List Key × Addr × Value}, KT H kvs xs → x ∈ xs → ∃ p ∈ kvs, p.1 = x.1 ∧ RelV p.2 x.2.2
  | _, _, x, .nil, h => by cases h
  | a :: as, b :: bs, x, .cons hq t, h => by
    rcases List.mem_cons.mp h with rfl | z
    · exact ⟨a, List.mem_cons_self, hq.1, hq.2.2⟩
    · obtain ⟨p, h1, h2⟩ := kt_mem2 t z
      exact ⟨p, List.mem_cons_of_mem _ h1, h2⟩
theorem atKey_ix {K : Type} [DecidableEq K] {xs : List (K × Addr × Value)} {k : K} {p : Addr × Value} (h : atKey xs k = some p) : ∃ j : Nat, xs[j]? = some (k, p) := by
  unfold atKey at h
  obtain ⟨x, hx, rfl⟩ := Option.map_eq_some_iff.mp h
  have e := List.find?_some hx
  have m := List.mem_of_find?_eq_some hx
  obtain ⟨j, hj, ej⟩ := List.getElem_of_mem m
  exact ⟨j, by rw [List.getElem?_eq_getElem hj, ej, ← (show x.1 = k by simpa using e)]⟩
theorem hits_of {ks ls : List (List Key × V)} {xa xb : List (List Key × Addr × Value)} (hu : X.A.units + 65 < cLine) (I : Inv X pins σ H s) (ra : KT H ks xa) (rb : KT H ls xb) (h : SameDT X.K H ks ls) :
    ∀ x ∈ xa, ∃ (j : Nat) (p : Addr × Value), xb[j]? = some (x.1, p) ∧ SeqAt.EqAt X.A.in1 s x.2.2 p.2 true := fun x hx => by
  obtain ⟨p, hp, e1, rv⟩ := kt_mem2 ra hx
  obtain ⟨v, d, e, hv, hd, he, sd, se, q⟩ := h.2 p hp
  have lk := rb.val p.1
  rw [hv] at lk
  cases hat : atKey xb p.1 with
  | none => rw [hat] at lk; exact lk.elim
  | some y =>
    rw [hat] at lk
    obtain ⟨j, hj⟩ := atKey_ix hat
    refine ⟨j, y, by rw [← e1]; exact hj, ?_⟩
    obtain ⟨as, r1⟩ := Dp.reads I d _ _ hd rv
    obtain ⟨bs, r2⟩ := Dp.reads I e _ _ he (show RelV v y.2 from lk)
    rw [← q]
    exact PySem.W.keq_at r1 r2 sd se (by show X.A.units + 1 + 64 < cLine; omega)
def rNeDT (K : PySem.W.Frag) : R2 := fun x y H Q => ∃ a b ks ls, x = .ref a ∧ y = .ref b ∧ Rd H a (.dT ks) ∧ Rd H b (.dT ls) ∧ SameDT K H ks ls ∧ Q (.bl false) H
def rEqDT (K : PySem.W.Frag) : R2 := fun x y H Q => ∃ a b ks ls, x = .ref a ∧ y = .ref b ∧ Rd H a (.dT ks) ∧ Rd H b (.dT ls) ∧ SameDT K H ks ls ∧ Q (.bl true) H
theorem op_neDT (hu : X.A.units + 65 < cLine) : OpR X (compareOp .NotEq) (rNeDT X.K) := by
  rintro pins s σ H _ _ v u Q I rx ry ⟨a, b, ks, ls, rfl, rfl, ea, eb, hs, q⟩
  cases rx
  cases ry
  obtain ⟨za, ya, xa, ra, da⟩ := dt_rd I.hok ea
  obtain ⟨zb, yb, xb, rb, db⟩ := dt_rd I.hok eb
  exact neT ya yb (by omega) (by show X.A.units + 1 < cLine; omega) da db (by rw [← KT.len ra, ← KT.len rb, hs.1]) (hits_of hu I ra rb hs) ⟨.bl false, H, I, rfl, q⟩
theorem op_eqDT (hu : X.A.units + 65 < cLine) : OpR X (compareOp .Eq) (rEqDT X.K) := by
  rintro pins s σ H _ _ v u Q I rx ry ⟨a, b, ks, ls, rfl, rfl, ea, eb, hs, q⟩
  cases rx
  cases ry
  obtain ⟨za, ya, xa, ra, da⟩ := dt_rd I.hok ea
  obtain ⟨zb, yb, xb, rb, db⟩ := dt_rd I.hok eb
  exact eqT ya yb (by omega) (by show X.A.units + 1 < cLine; omega) da db (by rw [← KT.len ra, ← KT.len rb, hs.1]) (hits_of hu I ra rb hs) ⟨.bl true, H, I, rfl, q⟩
end
end Y0
namespace Y
open PySem L2

/-! ### the state -/
/-- what is known of the names' values, and the resources -/
structure Ev where
  vs : List (Option D)
  rs : Rs
abbrev Ev.add (env : Ev) (v : V) (z : O) : Ev := ⟨env.vs, (v, z) :: env.rs⟩
def VarsR (K : PySem.W.Frag) (F : Hp) : List (Option D) → List (Option V) → Prop
  | [], σ => σ = []
  | d :: vs, σ => ∃ x σ', σ = x :: σ' ∧ (∀ z, d = some z → ∃ v, x = some v ∧ Rep K F z v) ∧ VarsR K F vs σ'
section
variable {K : PySem.W.Frag} {F F' : Hp}
theorem VarsR.mono (e : ExR F F') : ∀ {vs : List (Option D)} {σ : List (Option V)}, VarsR K F vs σ → VarsR K F' vs σ
  | [], σ, h => h
  | d :: vs, σ, h => by
    obtain ⟨x, σ', h1, h2, h3⟩ := h
    exact ⟨x, σ', h1, fun z hz => let ⟨v, g1, g2⟩ := h2 z hz; ⟨v, g1, Rep.mono e z v g2⟩, h3.mono e⟩
theorem VarsR.length : ∀ {vs : List (Option D)} {σ : List (Option V)}, VarsR K F vs σ → σ.length = vs.length
  | [], σ, h => by rw [show σ = [] from h]; rfl
  | d :: vs, σ, h => by
    obtain ⟨x, σ', h1, h2, h3⟩ := h
    rw [h1]; simp [h3.length]
theorem VarsR.get : ∀ {vs : List (Option D)} {σ : List (Option V)} {i : Nat} {z : D}, VarsR K F vs σ → vs[i]? = some (some z) → ∃ v, σ[i]? = some (some v) ∧ Rep K F z v
  | [], σ, i, z, h, e => by simp at e
  | d :: vs, σ, 0, z, h, e => by
    obtain ⟨x, σ', h1, h2, h3⟩ := h
    simp at e
    obtain ⟨v, g1, g2⟩ := h2 z e
    exact ⟨v, by rw [h1, g1]; rfl, g2⟩
  | d :: vs, σ, i + 1, z, h, e => by
    obtain ⟨x, σ', h1, h2, h3⟩ := h
    obtain ⟨v, g1, g2⟩ := h3.get (i := i) (by simpa using e)
    exact ⟨v, by rw [h1]; simpa using g1, g2⟩
theorem VarsR.set : ∀ {vs : List (Option D)} {σ : List (Option V)} {i : Nat} {z : D} {v : V}, VarsR K F vs σ → Rep K F z v → VarsR K F (vs.set i (some z)) (σ.set i (some v))
  | [], σ, i, z, v, h, r => by rw [show σ = [] from h]; rfl
  | d :: vs, σ, 0, z, v, h, r => by
    obtain ⟨x, σ', h1, h2, h3⟩ := h
    rw [h1]
    exact ⟨some v, σ', rfl, fun z' e => by cases e; exact ⟨v, rfl, r⟩, h3⟩
  | d :: vs, σ, i + 1, z, v, h, r => by
    obtain ⟨x, σ', h1, h2, h3⟩ := h
    rw [h1]
    exact ⟨x, σ'.set i (some v), rfl, h2, h3.set r⟩
/-- less is known -/
def Less : List (Option D) → List (Option D) → Prop
  | [], vs' => vs' = []
  | d :: vs, vs' => ∃ d' vs2, vs' = d' :: vs2 ∧ (d' = none ∨ d' = d) ∧ Less vs vs2
theorem VarsR.less : ∀ {vs vs' : List (Option D)} {σ : List (Option V)}, Less vs vs' → VarsR K F vs σ → VarsR K F vs' σ
  | [], vs', σ, l, h => by rw [show vs' = [] from l]; exact h
  | d :: vs, vs', σ, l, h => by
    obtain ⟨d', vs2, rfl, e, l⟩ := l
    obtain ⟨x, σ', h1, h2, h3⟩ := h
    refine ⟨x, σ', h1, fun z hz => ?_, h3.less l⟩
    rcases e with e | e
    · rw [e] at hz; cases hz
    · exact h2 z (e ▸ hz)
end
structure St (K : PySem.W.Frag) (b : Hp × Hp) (F H : Hp) (σ : List (Option V)) (env : Ev) : Prop where
  le : Le b.1 b.2 F H
  vr : VarsR K F env.vs σ
  ow : RsR K F H env.rs (fun a => b.2 a = none)
section
variable {K : PySem.W.Frag} {b : Hp × Hp} {F H F' H' : Hp} {σ : List (Option V)} {env : Ev}
theorem St.wf (S : St K b F H σ env) : Wf F H := S.le.wf
theorem St.step (S : St K b F H σ env) (l : Le F H F' H') : St K b F' H' σ env := ⟨S.le.trans l, S.vr.mono l.exR, S.ow.frame l.exR (l.fr _)⟩
/-- a weaker view of the state -/
def Ent (env env' : Ev) : Prop := Less env.vs env'.vs ∧ ∃ rs, env.rs.Perm (env'.rs ++ rs)
theorem St.ent (S : St K b F H σ env) {env' : Ev} (e : Ent env env') : St K b F H σ env' := by
  obtain ⟨e1, rs, e2⟩ := e
  obtain ⟨B, h1, h2⟩ := (S.ow.perm e2).spl
  exact ⟨S.le, S.vr.less e1, h1.reg fun a ha => ha.1⟩
end
/-- the frozen part grows -/
def FE (F F' : Hp) : Prop := ∀ a u, F a = some u → F' a = some u
theorem FE.refl (F : Hp) : FE F F := fun _ _ h => h
theorem FE.trans {F G H : Hp} (a : FE F G) (b : FE G H) : FE F H := fun x u h => b x u (a x u h)
theorem FE.ex {F G : Hp} (a : FE F G) : ExR F G := .same a
theorem FE.rep {K : PySem.W.Frag} {F G : Hp} (e : FE F G) {z : D} {v : V} (h : Rep K F z v) : Rep K G z v := Rep.mono e.ex z v h
theorem FE.reps {K : PySem.W.Frag} {F G : Hp} (e : FE F G) {z : List D} {v : List V} (h : Reps K F z v) : Reps K G z v := Reps.mono e.ex z v h

/-! ### the context -/
/-- what an exception bears: nothing, or fields -/
abbrev Pay := Option (List Str × List D)
/-- the program as it stands behind its top -/
structure Pg where
  P : Program
  w : World
  K : PySem.W.Frag
  mg : Str → Option Value
  base : Heap
structure Ctx where
  g : Pg
  nm : List (Str × NameKind)
  lvl : Nat
  xc : Value → Pay → Ev → Prop
abbrev Ctx.K (c : Ctx) : PySem.W.Frag := c.g.K
structure Good (c : Ctx) (N : List Str) (X : Cx) : Prop where
  gP : X.prog = c.g.P
  gw : X.w = c.g.w
  gK : X.K = c.g.K
  gmg : X.mg = c.g.mg
  gbase : X.base = c.g.base
  gN : X.N = N
  kn : ∀ x k, (x, k) ∈ c.nm → X.env.scope.names.lookup x = some k ∨ (k = .free ∧ X.env.scope.names.lookup x = some .cell)
  pl : ∀ x k, (x, k) ∈ c.nm → (x == ("__debug__" : Str)) = false ∧ (x == ("__classdict__" : Str)) = false
  sto : ∀ x k, (x, k) ∈ c.nm → (k = .local ∨ k = .cell) → X.fn x = true ∨ X.env.scope.names.lookup x = some .local
  calm : X.calm = true
  kd : X.env.scope.kind = .function
  room : Room c.lvl X.A
  nd : N.Nodup
  po : PassesOwn (model X.prog X.w) X.A X.env X.xe
def PayR (K : PySem.W.Frag) (F H : Hp) : Pay → Option Addr → Prop
  | none, d => d = none
  | some (ns, ds), d => ∃ a vs, d = some a ∧ H a = some (.xd (ns.zip vs)) ∧ ns.length = ds.length ∧ Reps K F ds vs
/-- the wish of exceptions is met -/
def XL (c : Ctx) (b : Hp × Hp) (F : Hp) (W : WX) : Prop := ∀ cls pay d env' σ' F' H', c.xc cls pay env' → FE F F' → St c.K b F' H' σ' env' → PayR c.K F' H' pay d → W cls d σ' H'
theorem XL.fe {c : Ctx} {b : Hp × Hp} {F F' : Hp} {W : WX} (x : XL c b F W) (e : FE F F') : XL c b F' W := fun cls pay d env' σ' F2 H2 h1 h2 h3 h4 => x cls pay d env' σ' F2 H2 h1 (e.trans h2) h3 h4

/-! ### weakest readings -/
def wpE (X : Cx) (e : Expr) : TE := fun σ H Q => ∀ pins s, Inv X pins σ H s → wpAny (model X.prog X.w) X.A (eval e X.env) (EP X pins σ Q) X.xe s
def wpT (X : Cx) (e : Expr) : TT := fun σ H Q => ∀ pins s, Inv X pins σ H s → wpAny (model X.prog X.w) X.A (isTrue e X.env (eval e X.env)) (TP X pins σ Q) X.xe s
def wpW (X : Cx) (e : Expr) : TT := fun σ H Q => ∀ whole pins s, Inv X pins σ H s → wpAny (model X.prog X.w) X.A (isTrue e X.env whole) (TP X pins σ Q) X.xe s
def wpA (X : Cx) (es : List Expr) : TA := fun σ H Q => ∀ pos pins s, Inv X pins σ H s → wpAny (model X.prog X.w) X.A (spliced (backTo pos (starEach es X.env))) (AP X pins σ Q) X.xe s
def wpS (X : Cx) (st : Stmt) : TS := fun D σ H => ∀ pins s, Inv X pins σ H s → wpAny (model X.prog X.w) X.A (exec st X.env) (SP X pins D) X.xe s
def wpSs (X : Cx) (st : List Stmt) : TS := fun D σ H => ∀ pins s, Inv X pins σ H s → wpAny (model X.prog X.w) X.A (execs st X.env) (SP X pins D) X.xe s
def wpG (X : Cx) (e : Expr) : TG := fun v σ H Q => ∀ pins s u, Inv X pins σ H s → RelV v u → wpAny (model X.prog X.w) X.A (assign e X.env u) (fun _ s' => ∃ σ' H', Inv X pins σ' H' s' ∧ Q σ' H') X.xe s
def wpGs (X : Cx) (ts : List Expr) : TGs := fun vs σ H Q => ∀ pins s us, Inv X pins σ H s → Vals vs us → wpAny (model X.prog X.w) X.A (assignInOrder ((assignEach ts X.env).map (·.2)) us) (fun _ s' => ∃ σ' H', Inv X pins σ' H' s' ∧ Q σ' H') X.xe s
def wpO (X : Cx) (f : Value → Value → Sem Value) : R2 := fun x y H Q => ∀ pins s σ v u, Inv X pins σ H s → RelV x v → RelV y u → wpAny (model X.prog X.w) X.A (f v u) (EP X pins σ Q) X.xe s
def wpU (X : Cx) (f : Value → Sem Value) : V → Hp → VK → Prop := fun x H Q => ∀ pins s σ v, Inv X pins σ H s → RelV x v → wpAny (model X.prog X.w) X.A (f v) (EP X pins σ Q) X.xe s
def wpC (X : Cx) (f : Value) : List V → Hp → VK → Prop := fun xs H Q => ∀ pins s σ us, Inv X pins σ H s → Vals xs us → wpAny (model X.prog X.w) X.A (call f us) (EP X pins σ Q) X.xe s
section
variable {X : Cx}
theorem pe_wp {e : Expr} : PE X e (wpE X e) := ⟨fun pins s _ _ _ I h => h pins s I⟩
theorem pt_wp {e : Expr} : PT X e (wpT X e) := ⟨fun pins s _ _ _ I h => h pins s I⟩
theorem pw_wp {e : Expr} : PW X e (wpW X e) := ⟨fun wh pins s _ _ _ I h => h wh pins s I⟩
theorem pa_wp {e : List Expr} : PA X e (wpA X e) := ⟨fun pos pins s _ _ _ I h => h pos pins s I⟩
theorem ps_wp {e : Stmt} : PS X e (wpS X e) := ⟨fun pins s _ _ _ I h => h pins s I⟩
theorem pss_wp {e : List Stmt} : PSs X e (wpSs X e) := ⟨fun pins s _ _ _ I h => h pins s I⟩
theorem pg_wp {e : Expr} : PG X e (wpG X e) := ⟨fun pins s _ _ _ u _ I r h => h pins s u I r⟩
theorem pgs_wp {e : List Expr} : PGs X e (wpGs X e) := ⟨fun pins s _ _ _ us _ I r h => h pins s us I r⟩
theorem op_wp {f : Value → Value → Sem Value} : OpR X f (wpO X f) := fun pins s σ _ _ _ v u _ I rx ry h => h pins s σ v u I rx ry
theorem un_wp {f : Value → Sem Value} : UnR X f (wpU X f) := fun pins s σ _ _ v _ I rx h => h pins s σ v I rx
theorem call_wp {f : Value} : CallR X f (wpC X f) := fun pins s σ _ _ us _ I r h => h pins s σ us I r
end
theorem _root_.L2.PE.wp {X : Cx} {e : Expr} {t : TE} (h : PE X e t) {σ : L2.St} {H : Hp} {Q : VK} (q : t σ H Q) : wpE X e σ H Q := fun pins s I => h.run pins s σ H Q I q
theorem _root_.L2.PT.wp {X : Cx} {e : Expr} {t : TT} (h : PT X e t) {σ : L2.St} {H : Hp} {Q : Bool → Hp → Prop} (q : t σ H Q) : wpT X e σ H Q := fun pins s I => h.run pins s σ H Q I q
theorem _root_.L2.PW.wp {X : Cx} {e : Expr} {t : TT} (h : PW X e t) {σ : L2.St} {H : Hp} {Q : Bool → Hp → Prop} (q : t σ H Q) : wpW X e σ H Q := fun wh pins s I => h.run wh pins s σ H Q I q
theorem _root_.L2.PA.wp {X : Cx} {e : List Expr} {t : TA} (h : PA X e t) {σ : L2.St} {H : Hp} {Q : List V → Hp → Prop} (q : t σ H Q) : wpA X e σ H Q := fun pos pins s I => h.run pos pins s σ H Q I q
theorem _root_.L2.PS.wp {X : Cx} {e : Stmt} {t : TS} (h : PS X e t) {σ : L2.St} {H : Hp} {D : Ends} (q : t D σ H) : wpS X e D σ H := fun pins s I => h.run pins s σ H D I q
theorem _root_.L2.PSs.wp {X : Cx} {e : List Stmt} {t : TS} (h : PSs X e t) {σ : L2.St} {H : Hp} {D : Ends} (q : t D σ H) : wpSs X e D σ H := fun pins s I => h.run pins s σ H D I q
theorem _root_.L2.PG.wp {X : Cx} {e : Expr} {t : TG} (h : PG X e t) {v : V} {σ : L2.St} {H : Hp} {Q : L2.St → Hp → Prop} (q : t v σ H Q) : wpG X e v σ H Q := fun pins s u I r => h.run pins s σ H v u Q I r q
theorem _root_.L2.PGs.wp {X : Cx} {e : List Expr} {t : TGs} (h : PGs X e t) {v : List V} {σ : L2.St} {H : Hp} {Q : L2.St → Hp → Prop} (q : t v σ H Q) : wpGs X e v σ H Q := fun pins s u I r => h.run pins s σ H v u Q I r q

/-! ### the judgements -/
/-- an expression's value, frozen -/
def E (c : Ctx) (N : List Str) (env : Ev) (e : Expr) (Φ : D → Ev → Prop) : Prop :=
  ∀ X, Good c N X → ∀ b F H σ, St c.K b F H σ env → ∀ W, Takes X W → XL c b F W → ∀ Q : VK,
    (∀ z env' v F' H', Φ z env' → FE F F' → St c.K b F' H' σ env' → Rep c.K F' z v → Q v H') → wpE X e σ H Q
/-- .. seen, as it is now -/
def Wv (c : Ctx) (N : List Str) (env : Ev) (e : Expr) (Φ : D → Ev → Prop) : Prop :=
  ∀ X, Good c N X → ∀ b F H σ, St c.K b F H σ env → ∀ W, Takes X W → XL c b F W → ∀ Q : VK,
    (∀ z env' v F' H', Φ z env' → FE F F' → St c.K b F' H' σ env' → Rep c.K H' z v → Q v H') → wpE X e σ H Q
/-- .. owned, on top of the slots -/
def EO (c : Ctx) (N : List Str) (env : Ev) (e : Expr) (Φ : O → Ev → Prop) : Prop :=
  ∀ X, Good c N X → ∀ b F H σ, St c.K b F H σ env → ∀ W, Takes X W → XL c b F W → ∀ Q : VK,
    (∀ z env' v F' H', Φ z env' → FE F F' → St c.K b F' H' σ (env'.add v z) → Q v H') → wpE X e σ H Q
/-- a test -/
def T (c : Ctx) (N : List Str) (env : Ev) (e : Expr) (Φ : Bool → Ev → Prop) : Prop :=
  ∀ X, Good c N X → ∀ b F H σ, St c.K b F H σ env → ∀ W, Takes X W → XL c b F W → ∀ Q : Bool → Hp → Prop,
    (∀ k env' F' H', Φ k env' → FE F F' → St c.K b F' H' σ env' → Q k H') → wpT X e σ H Q
def TW (c : Ctx) (N : List Str) (env : Ev) (e : Expr) (Φ : Bool → Ev → Prop) : Prop :=
  ∀ X, Good c N X → ∀ b F H σ, St c.K b F H σ env → ∀ W, Takes X W → XL c b F W → ∀ Q : Bool → Hp → Prop,
    (∀ k env' F' H', Φ k env' → FE F F' → St c.K b F' H' σ env' → Q k H') → wpW X e σ H Q
/-- arguments -/
def EA (c : Ctx) (N : List Str) (env : Ev) (es : List Expr) (Φ : List D → Ev → Prop) : Prop :=
  ∀ X, Good c N X → ∀ b F H σ, St c.K b F H σ env → ∀ W, Takes X W → XL c b F W → ∀ Q : List V → Hp → Prop,
    (∀ zs env' vs F' H', Φ zs env' → FE F F' → St c.K b F' H' σ env' → Reps c.K F' zs vs → Q vs H') → wpA X es σ H Q
/-- .. seen -/
def WA (c : Ctx) (N : List Str) (env : Ev) (es : List Expr) (Φ : List D → Ev → Prop) : Prop :=
  ∀ X, Good c N X → ∀ b F H σ, St c.K b F H σ env → ∀ W, Takes X W → XL c b F W → ∀ Q : List V → Hp → Prop,
    (∀ zs env' vs F' H', Φ zs env' → FE F F' → St c.K b F' H' σ env' → Reps c.K H' zs vs → Q vs H') → wpA X es σ H Q
structure Post where
  nx : Ev → Prop
  rt : O → Ev → Prop := fun _ _ => False
  bk : Ev → Prop := fun _ => False
  ct : Ev → Prop := fun _ => False
structure Link (K : PySem.W.Frag) (Ψ : Post) (D : Ends) (b : Hp × Hp) (F : Hp) : Prop where
  nx : ∀ env' σ' F' H', Ψ.nx env' → FE F F' → St K b F' H' σ' env' → D.nx σ' H'
  rt : ∀ z env' v σ' F' H', Ψ.rt z env' → FE F F' → St K b F' H' σ' (env'.add v z) → D.rt v H'
  bk : ∀ env' σ' F' H', Ψ.bk env' → FE F F' → St K b F' H' σ' env' → D.bk σ' H'
  ct : ∀ env' σ' F' H', Ψ.ct env' → FE F F' → St K b F' H' σ' env' → D.ct σ' H'
theorem Link.fe {K : PySem.W.Frag} {Ψ : Post} {D : Ends} {b : Hp × Hp} {F F' : Hp} (l : Link K Ψ D b F) (e : FE F F') : Link K Ψ D b F' :=
  ⟨fun env' σ' F2 H2 h1 h2 => l.nx env' σ' F2 H2 h1 (e.trans h2), fun z env' v σ' F2 H2 h1 h2 => l.rt z env' v σ' F2 H2 h1 (e.trans h2), fun env' σ' F2 H2 h1 h2 => l.bk env' σ' F2 H2 h1 (e.trans h2), fun env' σ' F2 H2 h1 h2 => l.ct env' σ' F2 H2 h1 (e.trans h2)⟩
/-- a statement, a block -/
def S1 (c : Ctx) (N : List Str) (env : Ev) (st : Stmt) (Ψ : Post) : Prop :=
  ∀ X, Good c N X → ∀ b F H σ, St c.K b F H σ env → ∀ W, Takes X W → XL c b F W → ∀ D, Link c.K Ψ D b F → wpS X st D σ H
def R (c : Ctx) (N : List Str) (env : Ev) (st : List Stmt) (Ψ : Post) : Prop :=
  ∀ X, Good c N X → ∀ b F H σ, St c.K b F H σ env → ∀ W, Takes X W → XL c b F W → ∀ D, Link c.K Ψ D b F → wpSs X st D σ H
/-- a target of an assignment -/
def G (c : Ctx) (N : List Str) (env : Ev) (tg : Expr) (z : D) (Φ : Ev → Prop) : Prop :=
  ∀ X, Good c N X → ∀ b F H σ, St c.K b F H σ env → ∀ W, Takes X W → XL c b F W → ∀ v, Rep c.K F z v → ∀ Q : L2.St → Hp → Prop,
    (∀ env' σ' F' H', Φ env' → FE F F' → St c.K b F' H' σ' env' → Q σ' H') → wpG X tg v σ H Q
def Gs (c : Ctx) (N : List Str) (env : Ev) (tg : List Expr) (zs : List D) (Φ : Ev → Prop) : Prop :=
  ∀ X, Good c N X → ∀ b F H σ, St c.K b F H σ env → ∀ W, Takes X W → XL c b F W → ∀ vs, Reps c.K F zs vs → ∀ Q : L2.St → Hp → Prop,
    (∀ env' σ' F' H', Φ env' → FE F F' → St c.K b F' H' σ' env' → Q σ' H') → wpGs X tg vs σ H Q
/-- an operation on values -/
def Op2 (c : Ctx) (f : Value → Value → Sem Value) (x y : D) (Φ : D → Prop) : Prop :=
  ∀ N X, Good c N X → ∀ F H, Wf F H → ∀ vx vy, Rep c.K F x vx → Rep c.K F y vy → ∀ Q : VK, (∀ z v F' H', Φ z → Le F H F' H' → Rep c.K F' z v → Q v H') → wpO X f vx vy H Q
def Op1 (c : Ctx) (f : Value → Sem Value) (x : D) (Φ : D → Prop) : Prop :=
  ∀ N X, Good c N X → ∀ F H, Wf F H → ∀ vx, Rep c.K F x vx → ∀ Q : VK, (∀ z v F' H', Φ z → Le F H F' H' → Rep c.K F' z v → Q v H') → wpU X f vx H Q
/-- a call of a built-in, of values that are seen -/
def Cb (c : Ctx) (f : Value) (xs : List D) (Φ : D → Prop) : Prop :=
  ∀ N X, Good c N X → ∀ F H, Wf F H → ∀ vs, Reps c.K H xs vs → ∀ Q : VK, (∀ z v F' H', Φ z → Le F H F' H' → Rep c.K F' z v → Q v H') → wpC X f vs H Q
/-- .. of frozen values, giving something owned -/
def CbO (c : Ctx) (f : Value) (xs : List D) (Φ : O → Prop) : Prop :=
  ∀ N X, Good c N X → ∀ F H, Wf F H → ∀ vs, Reps c.K F xs vs → ∀ Q : VK, (∀ z v F' H', Φ z → Le F H F' H' → Own c.K F' H' z v (fun a => H a = none) → Q v H') → wpC X f vs H Q
end Y
namespace Y
open PySem L2

/-! ### names -/
inductive Look : List Str → List (Option D) → Str → Nat → D → Prop
  | hd {x : Str} {N : List Str} {s : D} {vs : List (Option D)} : Look (x :: N) (some s :: vs) x 0 s
  | tl {x y : Str} {N : List Str} {s : D} {t : Option D} {vs : List (Option D)} {i : Nat} : Look N vs x i s → Look (y :: N) (t :: vs) x (i + 1) s
theorem Look.ok {N : List Str} {vs : List (Option D)} {x : Str} {i : Nat} {s : D} (h : Look N vs x i s) : N[i]? = some x ∧ vs[i]? = some (some s) := by
  induction h with
  | hd => exact ⟨rfl, rfl⟩
  | tl _ ih => exact ⟨by simpa using ih.1, by simpa using ih.2⟩
/-- a name's place -/
inductive Ix : List Str → Str → Nat → Prop
  | hd {x : Str} {N : List Str} : Ix (x :: N) x 0
  | tl {x y : Str} {N : List Str} {i : Nat} : Ix N x i → Ix (y :: N) x (i + 1)
theorem Ix.ok {N : List Str} {x : Str} {i : Nat} (h : Ix N x i) : N[i]? = some x := by
  induction h with
  | hd => rfl
  | tl _ ih => simpa using ih
/-- where a name's value is put -/
inductive Put : List Str → List (Option D) → Str → Nat → (D → List (Option D)) → Prop
  | hd {x : Str} {N : List Str} {t : Option D} {vs : List (Option D)} : Put (x :: N) (t :: vs) x 0 (fun z => some z :: vs)
  | tl {x y : Str} {N : List Str} {t : Option D} {vs : List (Option D)} {i : Nat} {f : D → List (Option D)} : Put N vs x i f → Put (y :: N) (t :: vs) x (i + 1) (fun z => t :: f z)
theorem Put.ok {N : List Str} {vs : List (Option D)} {x : Str} {i : Nat} {f : D → List (Option D)} (h : Put N vs x i f) : N[i]? = some x ∧ ∀ z, f z = vs.set i (some z) := by
  induction h with
  | hd => exact ⟨rfl, fun z => rfl⟩
  | tl _ ih => exact ⟨by simpa using ih.1, fun z => by show _ :: _ = _; rw [ih.2]; rfl⟩
/-- a resource, and another tree in its place -/
inductive Res : Rs → V → O → (O → Rs) → Prop
  | hd {w : V} {t : O} {rs : Rs} : Res ((w, t) :: rs) w t (fun t' => (w, t') :: rs)
  | tl {w : V} {t : O} {rs : Rs} {r : V × O} {f : O → Rs} : Res rs w t f → Res (r :: rs) w t (fun t' => r :: f t')
/-- a resource, and the others -/
inductive Tak : Rs → V → O → Rs → Prop
  | hd {w : V} {t : O} {rs : Rs} : Tak ((w, t) :: rs) w t rs
  | tl {w : V} {t : O} {rs rs' : Rs} {r : V × O} : Tak rs w t rs' → Tak (r :: rs) w t (r :: rs')
theorem Tak.perm {rs rs' : Rs} {w : V} {t : O} (h : Tak rs w t rs') : rs.Perm ((w, t) :: rs') := by
  induction h with
  | hd => exact .refl _
  | tl _ ih => exact (ih.cons _).trans (.swap _ _ _)
theorem Res.ok {rs : Rs} {w : V} {t : O} {f : O → Rs} (h : Res rs w t f) : ∃ rs', rs.Perm ((w, t) :: rs') ∧ ∀ t', ((w, t') :: rs').Perm (f t') := by
  induction h with
  | hd => exact ⟨_, .refl _, fun t' => .refl _⟩
  | @tl w t rs r f _ ih =>
    obtain ⟨rs', h1, h2⟩ := ih
    exact ⟨r :: rs', (h1.cons r).trans (.swap _ _ _), fun t' => (List.Perm.swap _ _ _).trans ((h2 t').cons r)⟩
inductive Kn : List (Str × NameKind) → Str → NameKind → Prop
  | hd {x : Str} {k : NameKind} {l : List (Str × NameKind)} : Kn ((x, k) :: l) x k
  | tl {x : Str} {k : NameKind} {y : Str × NameKind} {l : List (Str × NameKind)} : Kn l x k → Kn (y :: l) x k
theorem Kn.mem {l : List (Str × NameKind)} {x : Str} {k : NameKind} (h : Kn l x k) : (x, k) ∈ l := by
  induction h with
  | hd => exact List.mem_cons_self
  | tl _ ih => exact List.mem_cons_of_mem _ ih
def visK : NameKind → Bool
  | .local => true
  | .cell => true
  | .free => true
  | _ => false
section
variable {c : Ctx} {N : List Str} {X : Cx} {x : Str} {k : NameKind}
theorem Good.vis (g : Good c N X) (h : Kn c.nm x k) (hv : visK k = true) : Vis X.env.scope x := by
  rcases g.kn x k h.mem with e | ⟨_, e⟩
  · cases k with
    | «local» => exact .inl e
    | cell => exact .inr (.inl e)
    | free => exact .inr (.inr e)
    | globalExplicit => cases hv
    | globalImplicit => cases hv
  · exact .inr (.inl e)
theorem Good.gl (g : Good c N X) (h : Kn c.nm x .globalImplicit) : Gl X x := by
  rcases g.kn x _ h.mem with e | ⟨e, _⟩
  · exact e
  · cases e
def locK : NameKind → Bool
  | .local => true
  | .cell => true
  | _ => false
theorem Good.loc (g : Good c N X) (h : Kn c.nm x k) (hv : locK k = true) : Loc X.env.scope x := by
  rcases g.kn x k h.mem with e | ⟨e, _⟩
  · cases k with
    | «local» => exact .inl e
    | cell => exact .inr e
    | free => cases hv
    | globalExplicit => cases hv
    | globalImplicit => cases hv
  · subst e; cases hv
theorem Good.fnx (g : Good c N X) (h : Kn c.nm x k) (hv : locK k = true) : X.fn x = true ∨ X.env.scope.names.lookup x = some .local := by
  refine g.sto x k h.mem ?_
  cases k with
  | «local» => exact .inl rfl
  | cell => exact .inr rfl
  | free => cases hv
  | globalExplicit => cases hv
  | globalImplicit => cases hv
end
section
variable {K : PySem.W.Frag} {F H F' H' : Hp} {b : Hp × Hp} {σ : List (Option V)} {env : Ev} {i : Nat} {z : D} {t : O} {w v : V}
theorem St.var (S : St K b F H σ env) (h : env.vs[i]? = some (some z)) : ∃ v, σ[i]? = some (some v) ∧ Rep K F z v := S.vr.get h
theorem Own.view {v : V} {A : Addr → Prop} (w : Wf F H) (h : Own K F H t v A) : Rep K H t.fz v := Own.frz w.ex t v A (fun _ _ _ _ e => e) h
/-- THE FOCUS on one resource -/
theorem St.res {f : O → Rs} (S : St K b F H σ env) (h : Res env.rs w t f) : ∃ B : Addr → Prop, Own K F H t w (fun a => b.2 a = none ∧ B a) ∧
    ∀ (F' H' : Hp) (t' : O), Le b.1 b.2 F' H' → FE F F' → Fr F H (fun a => b.2 a = none ∧ ¬ B a) F' H' (fun a => b.2 a = none ∧ ¬ B a) → Own K F' H' t' w (fun a => b.2 a = none ∧ B a) → St K b F' H' σ ⟨env.vs, f t'⟩ := by
  obtain ⟨rs', h1, h2⟩ := h.ok
  obtain ⟨B, g1, g2⟩ := (S.ow.perm h1).uncons
  exact ⟨B, g1, fun F' H' t' l e f o => ⟨l, S.vr.mono e.ex, RsR.perm (h2 t') (.cons B o (g2.frame e.ex f))⟩⟩
theorem St.view {f : O → Rs} (S : St K b F H σ env) (h : Res env.rs w t f) : Rep K H t.fz w := by
  obtain ⟨B, g1, _⟩ := S.res h
  exact g1.view S.wf
/-- something new in front -/
theorem St.push (S : St K b F H σ env) (l : Le F H F' H') (h : Own K F' H' t v (fun a => H a = none)) : St K b F' H' σ (env.add v t) := by
  refine ⟨S.le.trans l, S.vr.mono l.exR, .cons (fun a => H a = none) (h.reg fun a ha => ⟨S.le.back ha, ha⟩) ?_⟩
  exact S.ow.frame l.exR fun a u ha hf hh => ⟨⟨ha, fun z => by have z : H a = none := z; rw [hh] at z; cases z⟩, l.free hf hh, l.ex a u hh⟩
theorem St.pushS (S : St K b F H σ env) (h : Rep K F z v) : St K b F H σ (env.add v (.s z)) :=
  S.push (Le.refl S.wf) (by simp only [Own]; exact h)
theorem St.put {x : Str} {N : List Str} {f : D → List (Option D)} (S : St K b F H σ env) (h : Put N env.vs x i f) (r : Rep K F z v) : St K b F H (σ.set i (some v)) ⟨f z, env.rs⟩ :=
  ⟨S.le, by rw [h.ok.2]; exact S.vr.set r, S.ow⟩
/-- what lies in front is frozen -/
theorem St.freeze (S : St K b F H σ (env.add v t)) : ∃ F', FE F F' ∧ St K b F' H σ env ∧ Rep K F' t.fz v := by
  obtain ⟨l, vr, ow⟩ := S
  obtain ⟨B, h1, h2⟩ := ow.uncons
  have cl : ∀ a, Decidable (B a ∧ b.2 a = none) := fun a => Classical.propDecidable _
  let F' : Hp := fun a => match F a with
    | some u => some u
    | none => if B a ∧ b.2 a = none then H a else none
  have f1 : FE F F' := fun a u h => by show (match F a with | some u => some u | none => _) = _; rw [h]
  have f2 : ∀ a u, F' a = some u → F a = some u ∨ (F a = none ∧ B a ∧ b.2 a = none ∧ H a = some u) := fun a u h => by
    cases q : F a with
    | some w => 
      have : F' a = some w := f1 a w q
      rw [this] at h; exact .inl h
    | none =>
      have e : F' a = if B a ∧ b.2 a = none then H a else none := by show (match F a with | some u => some u | none => _) = _; rw [q]
      rw [e] at h
      by_cases hb : B a ∧ b.2 a = none
      · rw [if_pos hb] at h; exact .inr ⟨rfl, hb.1, hb.2, h⟩
      · rw [if_neg hb] at h; cases h
  have f3 : ∀ a u, F a = none → B a → b.2 a = none → H a = some u → F' a = some u := fun a u q hb h2 h => by
    show (match F a with | some u => some u | none => _) = _
    rw [q]
    show (if B a ∧ b.2 a = none then H a else none) = some u
    rw [if_pos ⟨hb, h2⟩]; exact h
  have exF : ExR F' H := by
    refine ⟨fun a u r => ?_, fun a xs r => ?_, fun a C dx fs r => ?_⟩
    · rcases r with r | ⟨o, r⟩
      · rcases f2 a _ r with q | ⟨_, _, _, q⟩
        · exact l.wf.ex.rd a u (.inl q)
        · exact .inl q
      · rcases f2 a _ r with q | ⟨_, _, _, q⟩
        · exact l.wf.ex.rd a u (.inr ⟨o, q⟩)
        · exact .inr ⟨o, q⟩
    · rcases f2 a _ r with q | ⟨_, _, _, q⟩
      · exact l.wf.ex.tp _ _ q
      · exact q
    · rcases f2 a _ r with q | ⟨_, _, _, q⟩
      · exact l.wf.ex.ins _ _ _ _ q
      · exact q
  have wf' : Wf F' H := ⟨exF, fun a xs r => f1 a _ (l.wf.tp a xs r)⟩
  have nw' : ∀ a, F' a ≠ none → b.1 a ≠ none ∨ b.2 a = none := fun a h => by
    cases q : F' a with
    | none => exact absurd q h
    | some u =>
      rcases f2 a u q with g | ⟨_, _, g, _⟩
      · exact l.nw a (by rw [g]; exact fun z => nomatch z)
      · exact .inr g
  refine ⟨F', f1, ⟨⟨fun a u h => f1 a u (l.ff a u h), wf', l.ex, nw'⟩, vr.mono f1.ex, ?_⟩, ?_⟩
  · refine h2.frame f1.ex fun a u ha hf hh => ⟨ha.1, ?_, hh⟩
    cases q : F' a with
    | none => rfl
    | some w =>
      rcases f2 a w q with g | ⟨_, g, _, _⟩
      · rw [hf] at g; cases g
      · exact absurd g ha.2
  · exact Own.frz f1.ex t v _ (fun a u ha hf hh => f3 a u hf ha.2 ha.1 hh) h1
end

/-! ### from one judgement to another -/
section
variable {c : Ctx} {N : List Str} {env : Ev} {e : Expr}
theorem E.mono {Φ Φ' : D → Ev → Prop} (h : E c N env e Φ) (g : ∀ z env1, Φ z env1 → Φ' z env1) : E c N env e Φ' :=
  fun X hX b F H σ S W tW xl Q hQ => h X hX b F H σ S W tW xl Q fun z env1 v F1 H1 p => hQ z env1 v F1 H1 (g z env1 p)
theorem E.toW {Φ : D → Ev → Prop} (h : E c N env e Φ) : Wv c N env e Φ :=
  fun X hX b F H σ S W tW xl Q hQ => h X hX b F H σ S W tW xl Q fun z env1 v F1 H1 p f S1 r => hQ z env1 v F1 H1 p f S1 (Rep.mono S1.wf.ex z v r)
theorem Wv.imm {Φ : D → Ev → Prop} (h : Wv c N env e (fun z env1 => z.imm = true ∧ Φ z env1)) : E c N env e Φ :=
  fun X hX b F H σ S W tW xl Q hQ => h X hX b F H σ S W tW xl Q fun z env1 v F1 H1 p f S1 r => hQ z env1 v F1 H1 p.2 f S1 (Rep.imm S1.wf z v p.1 r)
theorem E.toO {Φ : O → Ev → Prop} (h : E c N env e (fun z env1 => Φ (.s z) env1)) : EO c N env e Φ :=
  fun X hX b F H σ S W tW xl Q hQ => h X hX b F H σ S W tW xl Q fun z env1 v F1 H1 p f S1 r => hQ (.s z) env1 v F1 H1 p f (S1.pushS r)
theorem EO.toE {Φ : D → Ev → Prop} (h : EO c N env e (fun z env1 => Φ z.fz env1)) : E c N env e Φ :=
  fun X hX b F H σ S W tW xl Q hQ => h X hX b F H σ S W tW xl Q fun z env1 v F1 H1 p f S1 => by
    obtain ⟨F', f', S', r⟩ := S1.freeze
    exact hQ z.fz env1 v F' H1 p (f.trans f') S' r

/-! ### names and constants -/
theorem e_var {x : Str} {i : Nat} {k : NameKind} {z : D} {pos : Pos} {Φ : D → Ev → Prop} (hl : Look N env.vs x i z) (hk : Kn c.nm x k) (hv : visK k = true) (h : Φ z env) : E c N env (.Name x pos) Φ := by
  intro X hX b F H σ S W tW xl Q hQ
  obtain ⟨h1, h2⟩ := hl.ok
  obtain ⟨v, hs, r⟩ := S.var h2
  exact (pe_var (by rw [hX.gN]; exact h1) (hX.vis hk hv) (hX.pl _ _ hk.mem).1 (hX.pl _ _ hk.mem).2).wp ⟨v, hs, hQ z env v F H h (.refl F) S r⟩
/-- what a pointer points to, seen -/
theorem w_res {f : O → Rs} {w : V} {t : O} {Φ : D → Ev → Prop} (h : E c N env e fun z env1 => ∃ w t f, z = .raw w ∧ Res env1.rs w t f ∧ Φ t.fz env1) : Wv c N env e Φ := by
  intro X hX b F H σ S W tW xl Q hQ
  refine h X hX b F H σ S W tW xl Q fun z env1 v F1 H1 p f S1 r => ?_
  obtain ⟨w, t, g, rfl, hr, hp⟩ := p
  simp only [Rep] at r
  subst r
  exact hQ _ env1 _ F1 H1 hp f S1 (S1.view hr)
theorem e_int {i : Int} {j : Nat} {pos : Pos} {Φ : D → Ev → Prop} (h : Φ (.int i) env) : E c N env (.Constant (.int i) j pos) Φ :=
  fun X hX b F H σ S W tW xl Q hQ => pe_int.wp (hQ (.int i) env _ F H h (.refl F) S (by simp only [Rep]))
theorem e_bl {i : Bool} {j : Nat} {pos : Pos} {Φ : D → Ev → Prop} (h : Φ (.bl i) env) : E c N env (.Constant (.bool i) j pos) Φ :=
  fun X hX b F H σ S W tW xl Q hQ => pe_bl.wp (hQ (.bl i) env _ F H h (.refl F) S (by simp only [Rep]))
theorem e_non {j : Nat} {pos : Pos} {Φ : D → Ev → Prop} (h : Φ .non env) : E c N env (.Constant .none j pos) Φ :=
  fun X hX b F H σ S W tW xl Q hQ => pe_non.wp (hQ .non env _ F H h (.refl F) S (by simp only [Rep]))
theorem e_str {i : Str} {j : Nat} {pos : Pos} {Φ : D → Ev → Prop} (h : Φ (.str i) env) : E c N env (.Constant (.str i) j pos) Φ :=
  fun X hX b F H σ S W tW xl Q hQ => pe_str.wp (hQ (.str i) env _ F H h (.refl F) S (by simp only [Rep]))
/-- a global that is a constant, a def, a class -/
def Gc (g : Pg) (x : Str) (z : D) : Prop := ∃ u v, g.mg x = some u ∧ RelV v u ∧ ∀ F, Rep g.K F z v
theorem e_glob {x : Str} {z : D} {pos : Pos} {Φ : D → Ev → Prop} (hg : Gc c.g x z) (hk : Kn c.nm x .globalImplicit) (h : Φ z env) : E c N env (.Name x pos) Φ := by
  intro X hX b F H σ S W tW xl Q hQ
  obtain ⟨u, v, h1, h2, h3⟩ := hg
  exact (pe_glob (hX.gl hk) (by rw [hX.gmg]; exact h1) h2 (hX.pl _ _ hk.mem).1).wp (hQ z env v F H h (.refl F) S (h3 F))
/-- a built-in type's name -/
theorem e_ty {x : Str} {n : String} {pos : Pos} {Φ : D → Ev → Prop} (hm : c.g.mg x = none) (hv : bootBuiltins x = some (.type n)) (hk : Kn c.nm x .globalImplicit) (hn : x ≠ "__name__") (h : Φ (.raw (.ty n)) env) : E c N env (.Name x pos) Φ := by
  intro X hX b F H σ S W tW xl Q hQ
  exact (pe_bltn (v := .ty n) (hX.gl hk) (by rw [hX.gmg]; exact hm) hv rfl hn (hX.pl _ _ hk.mem).1).wp (hQ _ env _ F H h (.refl F) S (by simp only [Rep]))

/-! ### operators -/
theorem e_bin {a d : Expr} {op : Operator} {pos : Pos} {Φ : D → Ev → Prop} (h : E c N env a fun x env1 => E c N env1 d fun y env2 => Op2 c (binaryOp op) x y fun z => Φ z env2) : E c N env (.BinOp a op d pos) Φ := by
  intro X hX b F H σ S W tW xl Q hQ
  refine (pe_op (r := wpO X (binaryOp op)) op_wp pe_wp pe_wp).wp ?_
  refine h X hX b F H σ S W tW xl _ fun x env1 vx F1 H1 h1 f1 S1 r1 => ?_
  refine h1 X hX b F1 H1 σ S1 W tW (xl.fe f1) _ fun y env2 vy F2 H2 h2 f2 S2 r2 => ?_
  exact h2 N X hX F2 H2 S2.wf vx vy (f2.rep r1) r2 Q fun z v F' H' hz l r => hQ z env2 v F' H' hz ((f1.trans f2).trans l.ff) (S2.step l) r
theorem e_un {a : Expr} {op : UnaryOp} {pos : Pos} {Φ : D → Ev → Prop} (h : E c N env a fun x env1 => Op1 c (unaryOp op) x fun z => Φ z env1) : E c N env (.UnaryOp op a pos) Φ := by
  intro X hX b F H σ S W tW xl Q hQ
  refine (pe_un (r := wpU X (unaryOp op)) un_wp pe_wp).wp ?_
  refine h X hX b F H σ S W tW xl _ fun x env1 vx F1 H1 h1 f1 S1 r1 => ?_
  exact h1 N X hX F1 H1 S1.wf vx r1 Q fun z v F' H' hz l r => hQ z env1 v F' H' hz (f1.trans l.ff) (S1.step l) r
theorem e_cmp {a d : Expr} {op : CmpOp} {pos : Pos} {Φ : D → Ev → Prop} (h : E c N env a fun x env1 => E c N env1 d fun y env2 => Op2 c (compareOp op) x y fun z => Φ z env2) (hm : behindInMarks op d = false) : E c N env (.Compare a [op] [d] pos) Φ := by
  intro X hX b F H σ S W tW xl Q hQ
  refine (pe_cmpR (r := wpO X (compareOp op)) op_wp pe_wp pe_wp hm).wp ?_
  refine h X hX b F H σ S W tW xl _ fun x env1 vx F1 H1 h1 f1 S1 r1 => ?_
  refine h1 X hX b F1 H1 σ S1 W tW (xl.fe f1) _ fun y env2 vy F2 H2 h2 f2 S2 r2 => ?_
  exact h2 N X hX F2 H2 S2.wf vx vy (f2.rep r1) r2 Q fun z v F' H' hz l r => hQ z env2 v F' H' hz ((f1.trans f2).trans l.ff) (S2.step l) r
theorem t_cmp {a d : Expr} {op : CmpOp} {pos : Pos} {Φ : Bool → Ev → Prop} (h : E c N env a fun x env1 => E c N env1 d fun y env2 => Op2 c (compareOp op) x y fun z => ∃ k, z = .bl k ∧ Φ k env2) (hm : behindInMarks op d = false) : T c N env (.Compare a [op] [d] pos) Φ := by
  intro X hX b F H σ S W tW xl Q hQ
  refine (pt_cmpR (r := wpO X (compareOp op)) op_wp pe_wp pe_wp hm).wp ?_
  refine h X hX b F H σ S W tW xl _ fun x env1 vx F1 H1 h1 f1 S1 r1 => ?_
  refine h1 X hX b F1 H1 σ S1 W tW (xl.fe f1) _ fun y env2 vy F2 H2 h2 f2 S2 r2 => ?_
  refine h2 N X hX F2 H2 S2.wf vx vy (f2.rep r1) r2 _ fun z v F' H' hz l r => ?_
  obtain ⟨k, rfl, hk⟩ := hz
  simp only [Rep] at r
  exact ⟨k, r, hQ k env2 F' H' hk ((f1.trans f2).trans l.ff) (S2.step l)⟩
def D.isNon : D → Bool
  | .non => true
  | .raw v => decide (v = .non)
  | _ => false
theorem Rep.isNon {K : PySem.W.Frag} {F : Hp} {z : D} {v : V} (h : Rep K F z v) : decide (v = .non) = z.isNon := by
  cases z with
  | raw w => simp only [Rep] at h; subst h; rfl
  | non => simp only [Rep] at h; subst h; rfl
  | bl b => simp only [Rep] at h; subst h; rfl
  | int b => simp only [Rep] at h; subst h; rfl
  | str b => simp only [Rep] at h; subst h; rfl
  | tup b => simp only [Rep] at h; obtain ⟨a, vs, rfl, _⟩ := h; rfl
  | lst b => simp only [Rep] at h; obtain ⟨a, vs, rfl, _⟩ := h; rfl
  | dic ks b => simp only [Rep] at h; obtain ⟨a, vs, rfl, _⟩ := h; rfl
  | dik ks b => simp only [Rep] at h; obtain ⟨a, vs, rfl, _⟩ := h; rfl
  | ins C ks b => simp only [Rep] at h; obtain ⟨a, vs, _, rfl, _⟩ := h; rfl
theorem t_isN {a : Expr} {j : Nat} {p pos : Pos} {Φ : Bool → Ev → Prop} (h : Wv c N env a fun x env1 => Φ x.isNon env1) : T c N env (.Compare a [.Is] [.Constant .none j p] pos) Φ := by
  intro X hX b F H σ S W tW xl Q hQ
  refine (pt_cmp (pc_isN pe_wp)).wp ?_
  refine h X hX b F H σ S W tW xl _ fun x env1 vx F1 H1 h1 f1 S1 r1 => ?_
  exact ⟨_, rfl, by rw [r1.isNon]; exact hQ _ env1 F1 H1 h1 f1 S1⟩
theorem t_notN {a : Expr} {j : Nat} {p pos : Pos} {Φ : Bool → Ev → Prop} (h : Wv c N env a fun x env1 => Φ (!x.isNon) env1) : T c N env (.Compare a [.IsNot] [.Constant .none j p] pos) Φ := by
  intro X hX b F H σ S W tW xl Q hQ
  refine (pt_cmp (pc_notN pe_wp)).wp ?_
  refine h X hX b F H σ S W tW xl _ fun x env1 vx F1 H1 h1 f1 S1 r1 => ?_
  exact ⟨_, rfl, by rw [r1.isNon]; exact hQ _ env1 F1 H1 h1 f1 S1⟩
theorem e_isN {a : Expr} {j : Nat} {p pos : Pos} {Φ : D → Ev → Prop} (h : Wv c N env a fun x env1 => Φ (.bl x.isNon) env1) : E c N env (.Compare a [.Is] [.Constant .none j p] pos) Φ := by
  intro X hX b F H σ S W tW xl Q hQ
  refine (pe_cmp (pc_isN pe_wp)).wp ?_
  refine h X hX b F H σ S W tW xl _ fun x env1 vx F1 H1 h1 f1 S1 r1 => ?_
  exact hQ _ env1 _ F1 H1 h1 f1 S1 (by simp only [Rep, r1.isNon])
theorem e_notN {a : Expr} {j : Nat} {p pos : Pos} {Φ : D → Ev → Prop} (h : Wv c N env a fun x env1 => Φ (.bl (!x.isNon)) env1) : E c N env (.Compare a [.IsNot] [.Constant .none j p] pos) Φ := by
  intro X hX b F H σ S W tW xl Q hQ
  refine (pe_cmp (pc_notN pe_wp)).wp ?_
  refine h X hX b F H σ S W tW xl _ fun x env1 vx F1 H1 h1 f1 S1 r1 => ?_
  exact hQ _ env1 _ F1 H1 h1 f1 S1 (by simp only [Rep, r1.isNon])
/-- a op d op' e -/
theorem e_chain {a d e : Expr} {op op' : CmpOp} {pos : Pos} {Φ : D → Ev → Prop} (h : E c N env a fun x env1 => E c N env1 d fun y env2 => Op2 c (compareOp op) x y fun z => ∃ k, z = .bl k ∧ (k = true → E c N env2 e fun u env3 => Op2 c (compareOp op') y u fun z => Φ z env3) ∧ (k = false → Φ (.bl false) env2))
    (hm : lastMarks [op, op'] [d, e] = false) : E c N env (.Compare a [op, op'] [d, e] pos) Φ := by
  intro X hX b F H σ S W tW xl Q hQ
  refine (pe_chain (r := wpO X (compareOp op)) (r' := wpO X (compareOp op')) op_wp op_wp pe_wp pe_wp pe_wp (hm := hm)).wp ?_
  refine h X hX b F H σ S W tW xl _ fun x env1 vx F1 H1 h1 f1 S1 r1 => ?_
  refine h1 X hX b F1 H1 σ S1 W tW (xl.fe f1) _ fun y env2 vy F2 H2 h2 f2 S2 r2 => ?_
  refine h2 N X hX F2 H2 S2.wf vx vy (f2.rep r1) r2 _ fun z v F3 H3 hz l r => ?_
  obtain ⟨k, rfl, hk1, hk2⟩ := hz
  simp only [Rep] at r
  have f3 := (f1.trans f2).trans l.ff
  refine ⟨k, r, ?_⟩
  cases k with
  | true =>
    rw [if_pos rfl]
    refine hk1 rfl X hX b F3 H3 σ (S2.step l) W tW (xl.fe f3) _ fun u env3 vu F4 H4 h4 f4 S4 r4 => ?_
    exact h4 N X hX F4 H4 S4.wf vy vu (f4.rep (Rep.mono l.exR _ _ r2)) r4 Q fun z v F' H' hz l' r => hQ z env3 v F' H' hz ((f3.trans f4).trans l'.ff) (S4.step l') r
  | false =>
    rw [if_neg Bool.false_ne_true]
    exact hQ _ env2 _ F3 H3 (hk2 rfl) f3 (S2.step l) (by simp only [Rep])
theorem t_chain {a d e : Expr} {op op' : CmpOp} {pos : Pos} {Φ : Bool → Ev → Prop} (h : E c N env a fun x env1 => E c N env1 d fun y env2 => Op2 c (compareOp op) x y fun z => ∃ k, z = .bl k ∧ (k = true → E c N env2 e fun u env3 => Op2 c (compareOp op') y u fun z => ∃ m, z = .bl m ∧ Φ m env3) ∧ (k = false → Φ false env2))
    (hm : lastMarks [op, op'] [d, e] = false) : T c N env (.Compare a [op, op'] [d, e] pos) Φ := by
  intro X hX b F H σ S W tW xl Q hQ
  refine (pt_chain (r := wpO X (compareOp op)) (r' := wpO X (compareOp op')) op_wp op_wp pe_wp pe_wp pe_wp (hm := hm)).wp ?_
  refine h X hX b F H σ S W tW xl _ fun x env1 vx F1 H1 h1 f1 S1 r1 => ?_
  refine h1 X hX b F1 H1 σ S1 W tW (xl.fe f1) _ fun y env2 vy F2 H2 h2 f2 S2 r2 => ?_
  refine h2 N X hX F2 H2 S2.wf vx vy (f2.rep r1) r2 _ fun z v F3 H3 hz l r => ?_
  obtain ⟨k, rfl, hk1, hk2⟩ := hz
  simp only [Rep] at r
  have f3 := (f1.trans f2).trans l.ff
  refine ⟨k, r, ?_⟩
  cases k with
  | true =>
    rw [if_pos rfl]
    refine hk1 rfl X hX b F3 H3 σ (S2.step l) W tW (xl.fe f3) _ fun u env3 vu F4 H4 h4 f4 S4 r4 => ?_
    refine h4 N X hX F4 H4 S4.wf vy vu (f4.rep (Rep.mono l.exR _ _ r2)) r4 _ fun z v F' H' hz l' r => ?_
    obtain ⟨m, rfl, hm⟩ := hz
    simp only [Rep] at r
    exact ⟨m, r, hQ m env3 F' H' hm ((f3.trans f4).trans l'.ff) (S4.step l')⟩
  | false =>
    rw [if_neg Bool.false_ne_true]
    exact ⟨false, rfl, hQ false env2 F3 H3 (hk2 rfl) f3 (S2.step l)⟩

/-! ### tests -/
theorem t_val {a : Expr} {Φ : Bool → Ev → Prop} (h : E c N env a fun x env1 => ∃ k, x = .bl k ∧ Φ k env1) (he : ∀ env whole, isTrue a env whole = (do let v ← whole; standAt a.pos; holding [v] (truthy v))) : T c N env a Φ := by
  intro X hX b F H σ S W tW xl Q hQ
  refine (pt_val pe_wp (he X.env)).wp ?_
  refine h X hX b F H σ S W tW xl _ fun x env1 vx F1 H1 h1 f1 S1 r1 => ?_
  obtain ⟨k, rfl, hk⟩ := h1
  simp only [Rep] at r1
  exact ⟨k, r1, hQ k env1 F1 H1 hk f1 S1⟩
theorem t_not {a : Expr} {pos : Pos} {Φ : Bool → Ev → Prop} (h : T c N env a fun k env1 => Φ (!k) env1) : T c N env (.UnaryOp .Not a pos) Φ := by
  intro X hX b F H σ S W tW xl Q hQ
  refine (pt_not pt_wp).wp ?_
  exact h X hX b F H σ S W tW xl _ fun k env1 F1 H1 h1 f1 S1 => hQ _ env1 F1 H1 h1 f1 S1
theorem TW.t {a : Expr} {Φ : Bool → Ev → Prop} (h : TW c N env a Φ) : T c N env a Φ :=
  fun X hX b F H σ S W tW xl Q hQ pins s I => h X hX b F H σ S W tW xl Q hQ _ pins s I
theorem tw_and1 {a : Expr} {pos : Pos} {Φ : Bool → Ev → Prop} (h : T c N env a Φ) : TW c N env (.BoolOp .And [a] pos) Φ :=
  fun X hX b F H σ S W tW xl Q hQ => (pw_and1 pt_wp).wp (h X hX b F H σ S W tW xl Q hQ)
theorem tw_or1 {a : Expr} {pos : Pos} {Φ : Bool → Ev → Prop} (h : T c N env a Φ) : TW c N env (.BoolOp .Or [a] pos) Φ :=
  fun X hX b F H σ S W tW xl Q hQ => (pw_or1 pt_wp).wp (h X hX b F H σ S W tW xl Q hQ)
theorem tw_and {a d : Expr} {rest : List Expr} {pos : Pos} {Φ : Bool → Ev → Prop} (h : T c N env a fun k env1 => (k = true → TW c N env1 (.BoolOp .And (d :: rest) pos) Φ) ∧ (k = false → Φ false env1)) : TW c N env (.BoolOp .And (a :: d :: rest) pos) Φ := by
  intro X hX b F H σ S W tW xl Q hQ
  refine (pw_and pt_wp pw_wp).wp ?_
  refine h X hX b F H σ S W tW xl _ fun k env1 F1 H1 h1 f1 S1 => ?_
  cases k with
  | true =>
    rw [if_pos rfl]
    exact h1.1 rfl X hX b F1 H1 σ S1 W tW (xl.fe f1) _ fun k env2 F2 H2 h2 f2 S2 => hQ k env2 F2 H2 h2 (f1.trans f2) S2
  | false =>
    rw [if_neg Bool.false_ne_true]
    exact hQ false env1 F1 H1 (h1.2 rfl) f1 S1
theorem tw_or {a d : Expr} {rest : List Expr} {pos : Pos} {Φ : Bool → Ev → Prop} (h : T c N env a fun k env1 => (k = false → TW c N env1 (.BoolOp .Or (d :: rest) pos) Φ) ∧ (k = true → Φ true env1)) : TW c N env (.BoolOp .Or (a :: d :: rest) pos) Φ := by
  intro X hX b F H σ S W tW xl Q hQ
  refine (pw_or pt_wp pw_wp).wp ?_
  refine h X hX b F H σ S W tW xl _ fun k env1 F1 H1 h1 f1 S1 => ?_
  cases k with
  | false =>
    rw [if_neg Bool.false_ne_true]
    exact h1.1 rfl X hX b F1 H1 σ S1 W tW (xl.fe f1) _ fun k env2 F2 H2 h2 f2 S2 => hQ k env2 F2 H2 h2 (f1.trans f2) S2
  | true =>
    rw [if_pos rfl]
    exact hQ true env1 F1 H1 (h1.2 rfl) f1 S1
/-! .. as values -/
theorem e_one {a : Expr} {op : BoolOp} {pos : Pos} {Φ : D → Ev → Prop} (h : E c N env a Φ) : E c N env (.BoolOp op [a] pos) Φ :=
  fun X hX b F H σ S W tW xl Q hQ => (pe_one pe_wp).wp (h X hX b F H σ S W tW xl Q hQ)
theorem e_and {a d : Expr} {rest : List Expr} {pos : Pos} {Φ : D → Ev → Prop} (h : E c N env a fun x env1 => ∃ k, x = .bl k ∧ (k = true → E c N env1 (.BoolOp .And (d :: rest) pos) Φ) ∧ (k = false → Φ (.bl false) env1)) : E c N env (.BoolOp .And (a :: d :: rest) pos) Φ := by
  intro X hX b F H σ S W tW xl Q hQ
  refine (pe_and pe_wp pe_wp).wp ?_
  refine h X hX b F H σ S W tW xl _ fun x env1 vx F1 H1 h1 f1 S1 r1 => ?_
  obtain ⟨k, rfl, h2, h3⟩ := h1
  simp only [Rep] at r1
  refine ⟨k, r1, ?_⟩
  cases k with
  | true =>
    rw [if_pos rfl]
    exact h2 rfl X hX b F1 H1 σ S1 W tW (xl.fe f1) _ fun z env2 v F2 H2 h2 f2 S2 r2 => hQ z env2 v F2 H2 h2 (f1.trans f2) S2 r2
  | false =>
    rw [if_neg Bool.false_ne_true]
    exact hQ _ env1 _ F1 H1 (h3 rfl) f1 S1 (by simp only [Rep])
theorem e_or {a d : Expr} {rest : List Expr} {pos : Pos} {Φ : D → Ev → Prop} (h : E c N env a fun x env1 => ∃ k, x = .bl k ∧ (k = false → E c N env1 (.BoolOp .Or (d :: rest) pos) Φ) ∧ (k = true → Φ (.bl true) env1)) : E c N env (.BoolOp .Or (a :: d :: rest) pos) Φ := by
  intro X hX b F H σ S W tW xl Q hQ
  refine (pe_or pe_wp pe_wp).wp ?_
  refine h X hX b F H σ S W tW xl _ fun x env1 vx F1 H1 h1 f1 S1 r1 => ?_
  obtain ⟨k, rfl, h2, h3⟩ := h1
  simp only [Rep] at r1
  refine ⟨k, r1, ?_⟩
  cases k with
  | false =>
    rw [if_neg Bool.false_ne_true]
    exact h2 rfl X hX b F1 H1 σ S1 W tW (xl.fe f1) _ fun z env2 v F2 H2 h2 f2 S2 r2 => hQ z env2 v F2 H2 h2 (f1.trans f2) S2 r2
  | true =>
    rw [if_pos rfl]
    exact hQ _ env1 _ F1 H1 (h3 rfl) f1 S1 (by simp only [Rep])
theorem e_not {a : Expr} {pos : Pos} {Φ : D → Ev → Prop} (h : E c N env a fun x env1 => ∃ k, x = .bl k ∧ Φ (.bl (!k)) env1) : E c N env (.UnaryOp .Not a pos) Φ := by
  intro X hX b F H σ S W tW xl Q hQ
  refine (pe_not pe_wp).wp ?_
  refine h X hX b F H σ S W tW xl _ fun x env1 vx F1 H1 h1 f1 S1 r1 => ?_
  obtain ⟨k, rfl, h2⟩ := h1
  simp only [Rep] at r1
  exact ⟨k, r1, hQ _ env1 _ F1 H1 h2 f1 S1 (by simp only [Rep])⟩
theorem e_if {t a d : Expr} {pos : Pos} {Φ : D → Ev → Prop} (h : T c N env t fun k env1 => (k = true → E c N env1 a Φ) ∧ (k = false → E c N env1 d Φ)) : E c N env (.IfExp t a d pos) Φ := by
  intro X hX b F H σ S W tW xl Q hQ
  refine (pe_ifExp pt_wp pe_wp pe_wp).wp ?_
  refine h X hX b F H σ S W tW xl _ fun k env1 F1 H1 h1 f1 S1 => ?_
  cases k with
  | true =>
    rw [if_pos rfl]
    exact h1.1 rfl X hX b F1 H1 σ S1 W tW (xl.fe f1) _ fun z env2 v F2 H2 h2 f2 S2 r2 => hQ z env2 v F2 H2 h2 (f1.trans f2) S2 r2
  | false =>
    rw [if_neg Bool.false_ne_true]
    exact h1.2 rfl X hX b F1 H1 σ S1 W tW (xl.fe f1) _ fun z env2 v F2 H2 h2 f2 S2 r2 => hQ z env2 v F2 H2 h2 (f1.trans f2) S2 r2

/-! ### arguments, displays -/
theorem ea_nil {Φ : List D → Ev → Prop} (h : Φ [] env) : EA c N env [] Φ :=
  fun X hX b F H σ S W tW xl Q hQ => pa_nil.wp (hQ [] env [] F H h (.refl F) S .nil)
theorem ea_cons {a : Expr} {es : List Expr} {Φ : List D → Ev → Prop} (h : E c N env a fun x env1 => EA c N env1 es fun xs env2 => Φ (x :: xs) env2) (hs : ∀ env, starEach (a :: es) env = (false, eval a env) :: starEach es env) : EA c N env (a :: es) Φ := by
  intro X hX b F H σ S W tW xl Q hQ
  refine (pa_cons pe_wp pa_wp (hs X.env)).wp ?_
  refine h X hX b F H σ S W tW xl _ fun x env1 vx F1 H1 h1 f1 S1 r1 => ?_
  exact h1 X hX b F1 H1 σ S1 W tW (xl.fe f1) _ fun xs env2 vs F2 H2 h2 f2 S2 r2 => hQ _ env2 _ F2 H2 h2 (f1.trans f2) S2 (.cons (f2.rep r1) r2)
theorem wa_nil {Φ : List D → Ev → Prop} (h : Φ [] env) : WA c N env [] Φ :=
  fun X hX b F H σ S W tW xl Q hQ => pa_nil.wp (hQ [] env [] F H h (.refl F) S .nil)
theorem wa_one {a : Expr} {Φ : List D → Ev → Prop} (h : Wv c N env a fun x env1 => Φ [x] env1) (hs : ∀ env, starEach [a] env = (false, eval a env) :: starEach [] env) : WA c N env [a] Φ := by
  intro X hX b F H σ S W tW xl Q hQ
  refine (pa_cons pe_wp pa_nil (hs X.env)).wp ?_
  exact h X hX b F H σ S W tW xl _ fun x env1 vx F1 H1 h1 f1 S1 r1 => hQ _ env1 _ F1 H1 h1 f1 S1 (.one r1)
theorem EA.toW {es : List Expr} {Φ : List D → Ev → Prop} (h : EA c N env es Φ) : WA c N env es Φ :=
  fun X hX b F H σ S W tW xl Q hQ => h X hX b F H σ S W tW xl Q fun z env1 v F1 H1 p f S1 r => hQ z env1 v F1 H1 p f S1 (Reps.mono S1.wf.ex z v r)
theorem sz1000 {n : Nat} (h : n ≤ 1000) : n ≤ sizeLine := Nat.le_trans h (by decide)
theorem e_tup {es : List Expr} {k : Nat} {pos : Pos} {Φ : D → Ev → Prop} (h : EA c N env es fun zs env1 => zs.length ≤ 1000 ∧ Φ (.tup zs) env1) : E c N env (.Tuple es k pos) Φ := by
  intro X hX b F H σ S W tW xl Q hQ
  refine (pe_tup pa_wp).wp ?_
  refine h X hX b F H σ S W tW xl _ fun zs env1 vs F1 H1 h1 f1 S1 r1 => ?_
  refine ⟨by rw [← r1.length]; exact sz1000 h1.1, fun p hp => ?_⟩
  have l := Le.new (o := .tup vs) S1.wf hp
  exact hQ _ env1 _ _ _ h1.2 (f1.trans l.ff) (S1.step l) (by simp only [Rep]; exact ⟨p, vs, rfl, upd_same, Reps.mono l.exR _ _ r1⟩)
theorem owns_sh {K : PySem.W.Frag} {F H : Hp} {A : Addr → Prop} : ∀ {zs : List D} {vs : List V}, Reps K F zs vs → Owns K F H (zs.map O.s) vs A
  | [], vs, h => by simp only [Reps] at h; subst h; simp only [List.map_nil, Owns]
  | z :: zs, vs, h => by
    simp only [Reps] at h
    obtain ⟨v, vs', h1, h2, h3⟩ := h
    subst h1
    simp only [List.map_cons, Owns, Own]
    exact ⟨v, vs', fun _ => True, rfl, h2, owns_sh h3⟩
theorem eo_lst {es : List Expr} {pos : Pos} {Φ : O → Ev → Prop} (h : EA c N env es fun zs env1 => zs.length ≤ 1000 ∧ Φ (.l (zs.map O.s)) env1) : EO c N env (.List es pos) Φ := by
  intro X hX b F H σ S W tW xl Q hQ
  refine (pe_lst pa_wp).wp ?_
  refine h X hX b F H σ S W tW xl _ fun zs env1 vs F1 H1 h1 f1 S1 r1 => ?_
  refine ⟨by rw [← r1.length]; exact sz1000 h1.1, fun p hp => ?_⟩
  have l := Le.newO (o := .lst vs) S1.wf True.intro hp
  refine hQ _ env1 _ _ _ h1.2 f1 (S1.push l ?_)
  simp only [Own]
  exact ⟨p, vs, rfl, hp, S1.wf.fresh hp, upd_same, owns_sh r1⟩
end
end Y
namespace Y
open PySem L2

theorem sqt {K : PySem.W.Frag} {H : Hp} {a : Addr} {xs : List V} (h : H a = some (.tup xs)) : SqT K H a xs := .inl (.inl h)
section
variable {c : Ctx} {x y : D} {Φ : D → Prop} {i j : Int}
/-- an operation that gives a plain value -/
theorem op2_of {f : Value → Value → Sem Value} {r : Cx → R2} (hr : ∀ N X, Good c N X → OpR X f (r X)) (z : D) (w : V) (hz : ∀ F, Rep c.K F z w) (h : Φ z)
    (hq : ∀ N X, Good c N X → ∀ F H, Wf F H → ∀ vx vy, Rep c.K F x vx → Rep c.K F y vy → ∀ Q : VK, Q w H → r X vx vy H Q) : Op2 c f x y Φ :=
  fun N X hX F H wf vx vy rx ry Q hQ pins s σ v u I r1 r2 => hr N X hX pins s σ H vx vy v u Q I r1 r2 (hq N X hX F H wf vx vy rx ry Q (hQ z w F H h (.refl wf) (hz F)))
theorem op_addI (h : Φ (.int (i + j))) : Op2 c (binaryOp .Add) (.int i) (.int j) Φ :=
  op2_of (r := fun _ => _) (fun _ _ _ => op_add) (.int (i + j)) (.int (i + j)) (fun F => by simp only [Rep]) h fun N X hX F H wf vx vy rx ry Q q => by
    simp only [Rep] at rx ry; subst rx ry; exact ⟨i, j, rfl, rfl, q⟩
theorem op_subI (h : Φ (.int (i - j))) : Op2 c (binaryOp .Sub) (.int i) (.int j) Φ :=
  op2_of (r := fun _ => _) (fun _ _ _ => op_sub) (.int (i - j)) (.int (i - j)) (fun F => by simp only [Rep]) h fun N X hX F H wf vx vy rx ry Q q => by
    simp only [Rep] at rx ry; subst rx ry; exact ⟨i, j, rfl, rfl, q⟩
theorem op_mulI (hb : (-(2 ^ 64) < i ∧ i < 2 ^ 64) ∨ (-(2 ^ 64) < j ∧ j < 2 ^ 64)) (h : Φ (.int (i * j))) : Op2 c (binaryOp .Mult) (.int i) (.int j) Φ :=
  op2_of (r := fun _ => _) (fun _ _ _ => op_mul) (.int (i * j)) (.int (i * j)) (fun F => by simp only [Rep]) h fun N X hX F H wf vx vy rx ry Q q => by
    simp only [Rep] at rx ry; subst rx ry; exact ⟨i, j, rfl, rfl, hb, q⟩
theorem op_mulW {a d : Nat} (ha : i.natAbs < 2 ^ a) (hd : j.natAbs < 2 ^ d) (h0 : 0 < a) (h1 : 0 < d) (hs : a + d ≤ 1000000) (h : Φ (.int (i * j))) : Op2 c (binaryOp .Mult) (.int i) (.int j) Φ :=
  op2_of (r := fun _ => _) (fun _ _ _ => L2.op_mulW) (.int (i * j)) (.int (i * j)) (fun F => by simp only [Rep]) h fun N X hX F H wf vx vy rx ry Q q => by
    simp only [Rep] at rx ry; subst rx ry; exact ⟨i, j, rfl, rfl, wide_mul ha hd h0 h1 hs, q⟩
theorem op_modI (hj : 0 < j) (h : Φ (.int (i % j))) : Op2 c (binaryOp .Mod) (.int i) (.int j) Φ :=
  op2_of (r := fun _ => _) (fun _ _ _ => op_mod) (.int (i % j)) (.int (i % j)) (fun F => by simp only [Rep]) h fun N X hX F H wf vx vy rx ry Q q => by
    simp only [Rep] at rx ry; subst rx ry; exact ⟨i, j, rfl, rfl, hj, q⟩
theorem op_divI (hj : 0 < j) (hb : j < 2 ^ 4000) (h : Φ (.int (i / j))) : Op2 c (binaryOp .FloorDiv) (.int i) (.int j) Φ :=
  op2_of (r := fun _ => _) (fun _ _ _ => L2.op_fdivW) (.int (i / j)) (.int (i / j)) (fun F => by simp only [Rep]) h fun N X hX F H wf vx vy rx ry Q q => by
    simp only [Rep] at rx ry; subst rx ry
    refine ⟨i, j, rfl, rfl, wide_div (b := 4000) hj ?_ (by omega) (by omega), q⟩
    have e : ((j.natAbs : Nat) : Int) = j := by omega
    exact Int.ofNat_lt.mp (by rw [e, Int.natCast_pow]; exact hb)
theorem op_powI (h0 : 0 ≤ j) (h1 : j ≤ 1000000) (hi : i.natAbs < 2 ^ 64) (h : Φ (.int (i ^ j.toNat))) : Op2 c (binaryOp .Pow) (.int i) (.int j) Φ :=
  op2_of (r := fun _ => _) (fun _ _ _ => op_pow) (.int (i ^ j.toNat)) (.int (i ^ j.toNat)) (fun F => by simp only [Rep]) h fun N X hX F H wf vx vy rx ry Q q => by
    simp only [Rep] at rx ry; subst rx ry; exact ⟨i, j, rfl, rfl, ⟨h0, h1, hi⟩, q⟩
theorem op_ltI (h : Φ (.bl (decide (i < j)))) : Op2 c (compareOp .Lt) (.int i) (.int j) Φ :=
  op2_of (r := fun _ => _) (fun _ _ _ => op_lt) (.bl (decide (i < j))) (.bl (decide (i < j))) (fun F => by simp only [Rep]) h fun N X hX F H wf vx vy rx ry Q q => by
    simp only [Rep] at rx ry; subst rx ry; exact ⟨i, j, rfl, rfl, q⟩
theorem op_leI (h : Φ (.bl (decide (i ≤ j)))) : Op2 c (compareOp .LtE) (.int i) (.int j) Φ :=
  op2_of (r := fun _ => _) (fun _ _ _ => op_le) (.bl (decide (i ≤ j))) (.bl (decide (i ≤ j))) (fun F => by simp only [Rep]) h fun N X hX F H wf vx vy rx ry Q q => by
    simp only [Rep] at rx ry; subst rx ry; exact ⟨i, j, rfl, rfl, q⟩
theorem op_gtI (h : Φ (.bl (decide (j < i)))) : Op2 c (compareOp .Gt) (.int i) (.int j) Φ :=
  op2_of (r := fun _ => _) (fun _ _ _ => op_gt) (.bl (decide (j < i))) (.bl (decide (j < i))) (fun F => by simp only [Rep]) h fun N X hX F H wf vx vy rx ry Q q => by
    simp only [Rep] at rx ry; subst rx ry; exact ⟨i, j, rfl, rfl, q⟩
theorem op_geI (h : Φ (.bl (decide (j ≤ i)))) : Op2 c (compareOp .GtE) (.int i) (.int j) Φ :=
  op2_of (r := fun _ => _) (fun _ _ _ => op_ge) (.bl (decide (j ≤ i))) (.bl (decide (j ≤ i))) (fun F => by simp only [Rep]) h fun N X hX F H wf vx vy rx ry Q q => by
    simp only [Rep] at rx ry; subst rx ry; exact ⟨i, j, rfl, rfl, q⟩
theorem op_eqI (h : Φ (.bl (decide (i = j)))) : Op2 c (compareOp .Eq) (.int i) (.int j) Φ :=
  op2_of (r := fun _ => _) (fun _ _ _ => op_eq) (.bl (decide (i = j))) (.bl (decide (V.int i = V.int j))) (fun F => by simp only [Rep, V.int.injEq]) h fun N X hX F H wf vx vy rx ry Q q => by
    simp only [Rep] at rx ry; subst rx ry; exact ⟨rfl, q⟩
theorem op_neI (h : Φ (.bl (!decide (i = j)))) : Op2 c (compareOp .NotEq) (.int i) (.int j) Φ :=
  op2_of (r := fun _ => _) (fun _ _ _ => op_ne) (.bl (!decide (i = j))) (.bl (!decide (V.int i = V.int j))) (fun F => by simp only [Rep, V.int.injEq]) h fun N X hX F H wf vx vy rx ry Q q => by
    simp only [Rep] at rx ry; subst rx ry; exact ⟨rfl, q⟩
theorem op_negI (h : Φ (.int (-i))) : Op1 c (unaryOp .USub) (.int i) Φ := fun N X hX F H wf vx rx Q hQ pins s σ v I r1 => by
  simp only [Rep] at rx
  subst rx
  exact un_neg pins s σ H _ v Q I r1 ⟨i, rfl, hQ (.int (-i)) _ F H h (.refl wf) (by simp only [Rep])⟩

/-! ### equality of data -/
mutual
def D.py : D → PyData
  | .non => .none
  | .bl b => .bool b
  | .int i => .int i
  | .str s => .str s
  | .tup ds => .tuple (D.pys ds)
  | .lst ds => .list (D.pys ds)
  | _ => .dict []
def D.pys : List D → List PyData
  | [] => []
  | z :: zs => z.py :: D.pys zs
end
mutual
def D.plain : D → Bool
  | .non => true
  | .bl _ => true
  | .int _ => true
  | .str _ => true
  | .tup ds => D.plains ds
  | .lst ds => D.plains ds
  | _ => false
def D.plains : List D → Bool
  | [] => true
  | z :: zs => z.plain && D.plains zs
end
mutual
theorem Rep.dp {K : PySem.W.Frag} {F : Hp} : ∀ (z : D) (v : V), z.plain = true → Rep K F z v → Dp K F v z.py
  | .non, v, p, h => by simp only [Rep] at h; subst h; exact .non
  | .bl b, v, p, h => by simp only [Rep] at h; subst h; exact .bl b
  | .int b, v, p, h => by simp only [Rep] at h; subst h; exact .int b
  | .str b, v, p, h => by simp only [Rep] at h; subst h; exact .str b
  | .tup ds, v, p, h => by
    simp only [Rep] at h
    obtain ⟨a, vs, rfl, h2, h3⟩ := h
    exact .tup (.inl (.inl h2)) (Reps.dp ds vs (by simpa only [D.plain] using p) h3)
  | .lst ds, v, p, h => by
    simp only [Rep] at h
    obtain ⟨a, vs, rfl, h2, h3⟩ := h
    exact .lst h2 (Reps.dp ds vs (by simpa only [D.plain] using p) h3)
  | .dic _ _, v, p, h => by simp only [D.plain] at p; cases p
  | .dik _ _, v, p, h => by simp only [D.plain] at p; cases p
  | .ins _ _ _, v, p, h => by simp only [D.plain] at p; cases p
  | .raw _, v, p, h => by simp only [D.plain] at p; cases p
theorem Reps.dp {K : PySem.W.Frag} {F : Hp} : ∀ (ds : List D) (vs : List V), D.plains ds = true → Reps K F ds vs → DpAll K F vs (D.pys ds)
  | [], vs, p, h => by simp only [Reps] at h; subst h; exact .nil
  | z :: zs, vs, p, h => by
    simp only [Reps] at h
    obtain ⟨v, vs', rfl, h2, h3⟩ := h
    simp only [D.plains, Bool.and_eq_true] at p
    exact .cons (Rep.dp z v p.1 h2) (Reps.dp zs vs' p.2 h3)
end
theorem op_eqD (px : x.plain = true) (py : y.plain = true) (sx : SeqAt.shaped x.py = true) (sy : SeqAt.shaped y.py = true) (h : Φ (.bl (PyData.eqv x.py y.py))) : Op2 c (compareOp .Eq) x y Φ :=
  op2_of (r := fun X => rEqD X.K) (fun _ X hX => L2.op_eqD hX.room.units) (.bl (PyData.eqv x.py y.py)) (.bl (PyData.eqv x.py y.py)) (fun F => by simp only [Rep]) h fun N X hX F H wf vx vy rx ry Q q => by
    have e := hX.gK
    exact ⟨x.py, y.py, by rw [e]; exact Rep.dp x vx px (Rep.mono wf.ex x vx rx), by rw [e]; exact Rep.dp y vy py (Rep.mono wf.ex y vy ry), sx, sy, q⟩
theorem op_neD (px : x.plain = true) (py : y.plain = true) (sx : SeqAt.shaped x.py = true) (sy : SeqAt.shaped y.py = true) (h : Φ (.bl (!PyData.eqv x.py y.py))) : Op2 c (compareOp .NotEq) x y Φ :=
  op2_of (r := fun X => rNeD X.K) (fun _ X hX => L2.op_neD hX.room.units) (.bl (!PyData.eqv x.py y.py)) (.bl (!PyData.eqv x.py y.py)) (fun F => by simp only [Rep]) h fun N X hX F H wf vx vy rx ry Q q => by
    have e := hX.gK
    exact ⟨x.py, y.py, by rw [e]; exact Rep.dp x vx px (Rep.mono wf.ex x vx rx), by rw [e]; exact Rep.dp y vy py (Rep.mono wf.ex y vy ry), sx, sy, q⟩
/-- tuple + tuple -/
theorem op_catT {xs ys : List D} (hl : xs.length + ys.length ≤ 100000) (h : Φ (.tup (xs ++ ys))) : Op2 c (binaryOp .Add) (.tup xs) (.tup ys) Φ := by
  intro N X hX F H wf vx vy rx ry Q hQ pins s σ v u I r1 r2
  simp only [Rep] at rx ry
  obtain ⟨a, vs, rfl, h1, h2⟩ := rx
  obtain ⟨a', us, rfl, h3, h4⟩ := ry
  have e := hX.gK
  have hl' : vs.length + us.length ≤ sizeLine := by rw [← h2.length, ← h4.length]; exact Nat.le_trans hl (by decide)
  have both : Reps c.K F (xs ++ ys) (vs ++ us) := h2.append h4
  refine op_catA pins s σ H _ _ v u Q I r1 r2 ⟨a, a', vs, us, rfl, rfl, sqt (wf.ex.tp _ _ h1), sqt (wf.ex.tp _ _ h3), hl', fun z => ?_, fun _ z => ?_, fun _ _ p hp => ?_⟩
  · subst z
    exact hQ _ _ F H h (.refl wf) (by simp only [Rep]; exact ⟨a', us, rfl, h3, both⟩)
  · subst z
    rw [List.append_nil] at both
    exact hQ _ _ F H h (.refl wf) (by simp only [Rep]; exact ⟨a, vs, rfl, h1, both⟩)
  · have l := Le.new (o := .tup (vs ++ us)) wf hp
    exact hQ _ _ _ _ h l (by simp only [Rep]; exact ⟨p, _, rfl, upd_same, Reps.mono l.exR _ _ both⟩)
end
end Y
set_option maxHeartbeats 4000000
namespace L2
open PySem PySem.Spec PyProof.Rows
theorem tuple_mul1 (l : Addr) (items : Array Value) (n : Nat) (dd : Option Addr) (sl : Array (Option Value)) (u : Tok) :
    Meets (Builtin.«tuple.__mul__» ⟨[.ref l, .int 1 u], []⟩) (fun _ R s => s.heap.get? l = some { cls := .type "tuple", dict := dd, data := .seq items n, slots := sl } ∧
      R (.ok (.ret (Value.ref l))) s) :=
  .of_wp fun prog w A R s h => by
    obtain ⟨hp, g, d, tk, os⟩ := s
    obtain ⟨hl, h⟩ := h
    have f1 := AutoSeq1.idx_int
    wp_walk using wpAny_loadPart' hl
    repeat (first
      | (refine wpAny_ite_false (decide_eq_false (by decide)) ?_; wp_walk using wpAny_loadPart' hl)
      | (refine wpAny_ite_true (by simp) ?_; wp_walk using wpAny_loadPart' hl))
    exact ⟨_, rfl, h⟩
theorem tuple_mul0 (l : Addr) (items : Array Value) (n : Nat) (dd : Option Addr) (sl : Array (Option Value)) (u : Tok) (hne : items.isEmpty = false) :
    Meets (Builtin.«tuple.__mul__» ⟨[.ref l, .int 0 u], []⟩) (fun _ R s => s.heap.get? l = some { cls := .type "tuple", dict := dd, data := .seq items n, slots := sl } ∧
      R (.ok (.ret (Value.ref s.heap.objs.size))) { s with heap := s.heap.push { cls := Value.type "tuple", data := Data.seq #[] }, toks := s.toks }) :=
  .of_wp fun prog w A R s h => by
    obtain ⟨hp, g, d, tk, os⟩ := s
    obtain ⟨hl, h⟩ := h
    have f1 := AutoSeq1.idx_int
    wp_walk using wpAny_loadPart' hl
    repeat (first
      | (refine wpAny_ite_false (decide_eq_false (by decide)) ?_; wp_walk using wpAny_loadPart' hl)
      | (refine wpAny_ite_false (decide_eq_false (by rw [hne]; decide)) ?_; wp_walk using wpAny_loadPart' hl)
      | (refine wpAny_ite_true (by simp) ?_; wp_walk using wpAny_loadPart' hl))
    exact ⟨_, rfl, h⟩
section
variable {X : Cx}
/-- t * k, k from 0 on -/
def rRepA (K : PySem.W.Frag) : R2 := fun x y H Q => ∃ l k xs, x = .ref l ∧ y = .int k ∧ SqT K H l xs ∧ xs ≠ [] ∧ 0 ≤ k ∧ k ≤ 1000 ∧ xs.length ≤ 1000 ∧ (k = 1 → Q (.ref l) H) ∧ (k ≠ 1 → ∀ p, H p = none → Q (.ref p) (upd H p (.tup (List.replicate k.toNat xs).flatten)))
theorem op_repA : OpR X (binaryOp .Mult) (rRepA X.K) := by
  intro pins s σ H x y v u Q I rx ry h
  obtain ⟨l, k, xs, rfl, rfl, hT, hne, h1, h2, hz, q1, q2⟩ := h
  by_cases k2 : 2 ≤ k
  · exact op_repT pins s σ H _ _ v u Q I rx ry ⟨l, k, xs, rfl, rfl, hT, hne, k2, h2, hz, q2 (by omega)⟩
  cases rx
  obtain ⟨t, rfl⟩ := ry
  obtain ⟨its, r, ⟨⟨cls, dd, data, sl⟩, ho, hc, n, hd⟩, hs⟩ := I.tuple hT
  simp only at hc hd
  subst hc hd
  have hle : its.length = xs.length := r.length.symm
  have hn : its ≠ [] := fun e => hne (by
    rw [e] at hle
    exact List.eq_nil_of_length_eq_zero hle.symm)
  have hi : its.toArray.isEmpty = false := by
    cases its with
    | nil => exact absurd rfl hn
    | cons a b => rfl
  by_cases e1 : k = 1
  · subst e1
    refine wpAny_binaryOp_repeat_ref (T := "tuple") (U := "int") (by decide) ⟨_, ho, rfl⟩ (fun s' => typeIs_int s' 1 t) noFill_tuple_mul F.fills_int_mul F.slot_int_rmul repeat_tuple F.slot_int_index.lookup
      (call_meets F.slot_int_rmul (typeIs_int s 1 t) F.entry_int_rmul (F.args_int_rmul_2 _ _) (int_rmul_tuple 1 t l its.toArray n dd sl)
        ⟨ho, rfl, ⟨_, ho, rfl⟩, call_meets F.slot_tuple_mul ⟨_, ho, rfl⟩ F.entry_tuple_mul (F.args_tuple_mul_2 _ _) (tuple_mul1 l its.toArray n dd sl t) ⟨ho, ?_⟩⟩)
    exact ⟨.ref l, H, I, rfl, q1 rfl⟩
  · have e0 : k = 0 := by omega
    subst e0
    refine wpAny_binaryOp_repeat_ref (T := "tuple") (U := "int") (by decide) ⟨_, ho, rfl⟩ (fun s' => typeIs_int s' 0 t) noFill_tuple_mul F.fills_int_mul F.slot_int_rmul repeat_tuple F.slot_int_index.lookup
      (call_meets F.slot_int_rmul (typeIs_int s 0 t) F.entry_int_rmul (F.args_int_rmul_2 _ _) (int_rmul_tuple 0 t l its.toArray n dd sl)
        ⟨ho, rfl, ⟨_, ho, rfl⟩, call_meets F.slot_tuple_mul ⟨_, ho, rfl⟩ F.entry_tuple_mul (F.args_tuple_mul_2 _ _) (tuple_mul0 l its.toArray n dd sl t hi) ⟨ho, ?_⟩⟩)
    refine ⟨.ref s.heap.objs.size, _, I.laid (t' := s.toks) (o := .tup []) (fun b ob q => Heap.get?_push_of_some _ q) (Nat.le_refl _) ?_, rfl, q2 (by omega) _ (I.hok.fresh (Nat.le_refl _))⟩
    exact ⟨Nat.zero_le _, [], .nil, IsTup.new _ _⟩
end
end L2
namespace Y
open PySem L2
section
variable {c : Ctx} {Φ : D → Prop} {k : Int}
theorem op_repT {xs : List D} (hn : xs ≠ []) (h0 : 0 ≤ k) (h1 : k ≤ 1000) (hl : xs.length ≤ 1000) (h : Φ (.tup (List.replicate k.toNat xs).flatten)) : Op2 c (binaryOp .Mult) (.tup xs) (.int k) Φ := by
  intro N X hX F H wf vx vy rx ry Q hQ pins s σ v u I r1 r2
  simp only [Rep] at rx ry
  obtain ⟨a, vs, rfl, g1, g2⟩ := rx
  subst ry
  have e := hX.gK
  have hl' := g2.length
  have rr : Reps c.K F (List.replicate k.toNat xs).flatten (List.replicate k.toNat vs).flatten := g2.rep _
  refine op_repA pins s σ H _ _ v u Q I r1 r2 ⟨a, k, vs, rfl, rfl, sqt (wf.ex.tp _ _ g1), fun z => hn (List.eq_nil_of_length_eq_zero (by rw [hl', z]; rfl)), h0, h1, by omega, fun z => ?_, fun _ p hp => ?_⟩
  · subst z
    have e1 : (List.replicate (1 : Int).toNat vs).flatten = vs := by simp
    rw [e1] at rr
    exact hQ _ _ F H h (.refl wf) (by simp only [Rep]; exact ⟨a, vs, rfl, g1, rr⟩)
  · have l := Le.new (o := .tup (List.replicate k.toNat vs).flatten) wf hp
    exact hQ _ _ _ _ h l (by simp only [Rep]; exact ⟨p, _, rfl, upd_same, Reps.mono l.exR _ _ rr⟩)
end

/-! ### subscripts -/
/-- the item of a tuple or list -/
def ixD : D → Int → Option D
  | .tup xs, i => atI xs i
  | .lst xs, i => atI xs i
  | _, _ => none
theorem Reps.atI {K : PySem.W.Frag} {F : Hp} {ds : List D} {vs : List V} {i : Int} {z : D} (h : Reps K F ds vs) (e : atI ds i = some z) : ∃ v, atI vs i = some v ∧ Rep K F z v := by
  unfold L2.atI at e ⊢
  rw [← h.length]
  cases q : ixN ds.length i with
  | none => rw [q] at e; simp at e
  | some j =>
    rw [q] at e
    obtain ⟨v, h1, h2⟩ := h.get (i := j) (d := z) (by simpa using e)
    exact ⟨v, by simpa using h1, h2⟩
theorem ixD_rep {K : PySem.W.Frag} {F : Hp} {x z : D} {v : V} {i : Int} (r : Rep K F x v) (e : ixD x i = some z) : ∃ a vs u, v = .ref a ∧ (SqL K F a vs ∨ SqT K F a vs) ∧ atI vs i = some u ∧ Rep K F z u := by
  cases x with
  | tup xs =>
    simp only [Rep] at r
    obtain ⟨a, vs, rfl, h1, h2⟩ := r
    obtain ⟨u, h3, h4⟩ := h2.atI (show atI xs i = some z from e)
    exact ⟨a, vs, u, rfl, .inr (sqt h1), h3, h4⟩
  | lst xs =>
    simp only [Rep] at r
    obtain ⟨a, vs, rfl, h1, h2⟩ := r
    obtain ⟨u, h3, h4⟩ := h2.atI (show atI xs i = some z from e)
    exact ⟨a, vs, u, rfl, .inl h1, h3, h4⟩
  | _ => simp [ixD] at e
section
variable {c : Ctx} {N : List Str} {env : Ev}
theorem e_ix {a d : Expr} {pos : Pos} {Φ : D → Ev → Prop} (h : E c N env a fun x env1 => E c N env1 d fun y env2 => ∃ i z, y = .int i ∧ ixD x i = some z ∧ Φ z env2) (hs : PlainIx d) : E c N env (.Subscript a d pos) Φ := by
  intro X hX b F H σ S W tW xl Q hQ
  refine (pe_ix ix_seq pe_wp pe_wp hs).wp ?_
  refine h X hX b F H σ S W tW xl _ fun x env1 vx F1 H1 h1 f1 S1 r1 => ?_
  refine h1 X hX b F1 H1 σ S1 W tW (xl.fe f1) _ fun y env2 vy F2 H2 h2 f2 S2 r2 => ?_
  obtain ⟨i, z, rfl, e, hz⟩ := h2
  simp only [Rep] at r2
  obtain ⟨p, vs, u, rfl, g1, g2, g3⟩ := ixD_rep (f2.rep r1) e
  have eK := hX.gK
  have q := hQ z env2 u F2 H2 hz (f1.trans f2) S2 g3
  rcases g1 with g1 | g1
  · exact .inl ⟨p, vs, i, u, rfl, r2, by rw [eK]; exact S2.wf.ex.sqL g1, g2, q⟩
  · exact .inr (.inl ⟨p, vs, i, u, rfl, r2, by rw [eK]; exact S2.wf.ex.sqT g1, g2, q⟩)
end
end Y
namespace Y
open PySem L2

section
variable {c : Ctx} {N : List Str} {env : Ev} {Ψ : Post}
/-! ### blocks -/
theorem r_nil (h : Ψ.nx env) : R c N env [] Ψ :=
  fun X hX b F H σ S W tW xl D L => pss_nil.wp (L.nx env σ F H h (.refl F) S)
theorem r_cons {st : Stmt} {rest : List Stmt} (h : S1 c N env st { Ψ with nx := fun env1 => R c N env1 rest Ψ }) : R c N env (st :: rest) Ψ := by
  intro X hX b F H σ S W tW xl D L
  refine (pss_cons ps_wp pss_wp).wp ?_
  refine h X hX b F H σ S W tW xl _ ⟨fun env1 σ1 F1 H1 h1 f1 S1 => ?_, L.rt, L.bk, L.ct⟩
  exact h1 X hX b F1 H1 σ1 S1 W tW (xl.fe f1) D (L.fe f1)
theorem R.imp {st : List Stmt} {Ψ' : Post} (h : R c N env st Ψ) (h1 : ∀ e, Ψ.nx e → Ψ'.nx e) (h2 : ∀ z e, Ψ.rt z e → Ψ'.rt z e) (h3 : ∀ e, Ψ.bk e → Ψ'.bk e) (h4 : ∀ e, Ψ.ct e → Ψ'.ct e) : R c N env st Ψ' :=
  fun X hX b F H σ S W tW xl D L => h X hX b F H σ S W tW xl D ⟨fun e σ1 F1 H1 q => L.nx e σ1 F1 H1 (h1 _ q), fun z e v σ1 F1 H1 q => L.rt z e v σ1 F1 H1 (h2 _ _ q), fun e σ1 F1 H1 q => L.bk e σ1 F1 H1 (h3 _ q), fun e σ1 F1 H1 q => L.ct e σ1 F1 H1 (h4 _ q)⟩
theorem S1.imp {st : Stmt} {Ψ' : Post} (h : S1 c N env st Ψ) (h1 : ∀ e, Ψ.nx e → Ψ'.nx e) (h2 : ∀ z e, Ψ.rt z e → Ψ'.rt z e) (h3 : ∀ e, Ψ.bk e → Ψ'.bk e) (h4 : ∀ e, Ψ.ct e → Ψ'.ct e) : S1 c N env st Ψ' :=
  fun X hX b F H σ S W tW xl D L => h X hX b F H σ S W tW xl D ⟨fun e σ1 F1 H1 q => L.nx e σ1 F1 H1 (h1 _ q), fun z e v σ1 F1 H1 q => L.rt z e v σ1 F1 H1 (h2 _ _ q), fun e σ1 F1 H1 q => L.bk e σ1 F1 H1 (h3 _ q), fun e σ1 F1 H1 q => L.ct e σ1 F1 H1 (h4 _ q)⟩
/-- the state, seen otherwise -/
theorem R.ent {st : List Stmt} {env' : Ev} (e : Ent env env') (h : R c N env' st Ψ) : R c N env st Ψ :=
  fun X hX b F H σ S => h X hX b F H σ (S.ent e)
/-- a statement, then what is known of it in short -/
theorem r_cut {st : Stmt} {rest : List Stmt} (M : Ev → Prop) (h : S1 c N env st { Ψ with nx := M }) (h2 : ∀ env1, M env1 → R c N env1 rest Ψ) : R c N env (st :: rest) Ψ :=
  r_cons (h.imp (fun e q => h2 e q) (fun _ _ q => q) (fun _ q => q) (fun _ q => q))

/-! ### simple statements -/
theorem s_pass {pos : Pos} (h : Ψ.nx env) : S1 c N env (.Pass pos) Ψ :=
  fun X hX b F H σ S W tW xl D L => ps_pass.wp (L.nx env σ F H h (.refl F) S)
theorem s_break {pos : Pos} (h : Ψ.bk env) : S1 c N env (.Break pos) Ψ :=
  fun X hX b F H σ S W tW xl D L => ps_break.wp (L.bk env σ F H h (.refl F) S)
theorem s_cont {pos : Pos} (h : Ψ.ct env) : S1 c N env (.Continue pos) Ψ :=
  fun X hX b F H σ S W tW xl D L => ps_continue.wp (L.ct env σ F H h (.refl F) S)
theorem s_retN {pos : Pos} (h : Ψ.rt (.s .non) env) : S1 c N env (.Return none pos) Ψ :=
  fun X hX b F H σ S W tW xl D L => ps_retN.wp (L.rt (.s .non) env .non σ F H h (.refl F) (S.pushS (by simp only [Rep])))
theorem s_retO {e : Expr} {pos : Pos} (h : EO c N env e Ψ.rt) : S1 c N env (.Return (some e) pos) Ψ := by
  intro X hX b F H σ S W tW xl D L
  refine (ps_ret pe_wp).wp ?_
  exact h X hX b F H σ S W tW xl _ fun z env1 v F1 H1 h1 f1 S1 => L.rt z env1 v σ F1 H1 h1 f1 S1
theorem s_ret {e : Expr} {pos : Pos} (h : E c N env e fun z env1 => Ψ.rt (.s z) env1) : S1 c N env (.Return (some e) pos) Ψ := s_retO h.toO
theorem s_expr {e : Expr} {pos : Pos} (h : E c N env e fun _ env1 => Ψ.nx env1) (hs : ∀ env, swapsWith e none pos.line env = pure false) : S1 c N env (.Expr e pos) Ψ := by
  intro X hX b F H σ S W tW xl D L
  refine (ps_expr pe_wp (hs _)).wp ?_
  exact h X hX b F H σ S W tW xl _ fun z env1 v F1 H1 h1 f1 S1 r1 => L.nx env1 σ F1 H1 h1 f1 S1
theorem s_if {e : Expr} {a d : List Stmt} {pos : Pos} (h : T c N env e fun k env1 => (k = true → R c N env1 a Ψ) ∧ (k = false → R c N env1 d Ψ)) : S1 c N env (.If e a d pos) Ψ := by
  intro X hX b F H σ S W tW xl D L
  refine (ps_if pt_wp pss_wp pss_wp).wp ?_
  refine h X hX b F H σ S W tW xl _ fun k env1 F1 H1 h1 f1 S1 => ?_
  cases k with
  | true =>
    rw [if_pos rfl]
    exact h1.1 rfl X hX b F1 H1 σ S1 W tW (xl.fe f1) D (L.fe f1)
  | false =>
    rw [if_neg Bool.false_ne_true]
    exact h1.2 rfl X hX b F1 H1 σ S1 W tW (xl.fe f1) D (L.fe f1)

/-! ### assignment -/
end
theorem swapped2 {env : Env} {x y : Str} {px py pt pt2 : Pos} {e1 e2 : Expr} {kt k2 : Nat} (hk : env.scope.kind = .function) (hx : env.scope.names.lookup x = some .local) (hy : env.scope.names.lookup y = some .local) (hxy : (x == y) = false) (hl : py.line = px.line)
    (h1 : ([e1, e2].any fun | .Starred .. => true | _ => false) = false) (h2 : [e1, e2].all (foldedForSure 8) = false) (h3 : [e1, e2].all (constantsAlone 8) = false) :
    swappedStores [.Tuple [.Name x px, .Name y py] kt pt] (.Tuple [e1, e2] k2 pt2) env = pure (some [x, y]) := by
  have kx : env.kindOf x = some .local := hx
  have ky : env.kindOf y = some .local := hy
  have hb : env.blockKind = .function := by unfold Env.blockKind; rw [hk]; rfl
  have hyx : ¬ y = x := fun z => by rw [z] at hxy; simp at hxy
  have hyx' : (y == x) = false := by
    cases q : y == x with
    | false => rfl
    | true => exact absurd (beq_iff_eq.mp q) hyx
  unfold swappedStores
  simp only [hb, h2, h3, List.filterMap_cons, List.filterMap_nil, kx, ky, List.head?_cons, Option.map_some, Option.getD_some, Expr.pos, hl, beq_self_eq_true, Bool.and_self, if_true]
  have hd : [x, y].eraseDups = [x, y] := by
    rw [List.eraseDups_cons, List.filter_cons, List.filter_nil, hyx', Bool.not_false, if_pos rfl, List.eraseDups_cons]
    rfl
  rw [hd, if_neg (by simp)]
  refine (if_neg ?_).trans ?_
  · exact fun z => absurd (h1.symm.trans z) (by decide)
  rw [if_neg (by simp)]
  rfl
section
variable {c : Ctx} {N : List Str} {env : Ev} {Ψ : Post}
theorem g_name {x : Str} {i : Nat} {k : NameKind} {z : D} {f : D → List (Option D)} {pos : Pos} {Φ : Ev → Prop} (hp : Put N env.vs x i f) (hk : Kn c.nm x k) (hv : locK k = true) (h : Φ ⟨f z, env.rs⟩) : G c N env (.Name x pos) z Φ := by
  intro X hX b F H σ S W tW xl v r Q hQ
  refine (pg_name (i := i) (by rw [hX.gN]; exact hX.nd) (by rw [hX.gN]; exact hp.ok.1) (hX.loc hk hv) (hX.fnx hk hv)).wp ?_
  exact hQ _ _ F H h (.refl F) (S.put hp r)
theorem gs_nil {Φ : Ev → Prop} (h : Φ env) : Gs c N env [] [] Φ := by
  intro X hX b F H σ S W tW xl vs r Q hQ
  simp only [Reps] at r
  exact pgs_nil.wp ⟨r, hQ env σ F H h (.refl F) S⟩
theorem gs_cons {e : Expr} {es : List Expr} {z : D} {zs : List D} {Φ : Ev → Prop} (h : G c N env e z fun env1 => Gs c N env1 es zs Φ) (hs : ∀ env, (assignEach (e :: es) env).map (·.2) = assign e env :: (assignEach es env).map (·.2)) : Gs c N env (e :: es) (z :: zs) Φ := by
  intro X hX b F H σ S W tW xl vs r Q hQ
  simp only [Reps] at r
  obtain ⟨v, vs', rfl, r1, r2⟩ := r
  refine (pgs_cons pg_wp pgs_wp (hs _)).wp ⟨v, vs', rfl, ?_⟩
  refine h X hX b F H σ S W tW xl v r1 _ fun env1 σ1 F1 H1 h1 f1 S1 => ?_
  exact h1 X hX b F1 H1 σ1 S1 W tW (xl.fe f1) vs' (f1.reps r2) Q fun env2 σ2 F2 H2 h2 f2 S2 => hQ env2 σ2 F2 H2 h2 (f1.trans f2) S2
theorem g_tup {es : List Expr} {k : Nat} {zs : List D} {pos : Pos} {Φ : Ev → Prop} (h : Gs c N env es zs Φ) (hl : zs.length = es.length) (hn : ∀ env, (assignEach es env).length = es.length) (hst : ∀ env, (assignEach es env).findIdx? (·.1) = none) : G c N env (.Tuple es k pos) (.tup zs) Φ := by
  intro X hX b F H σ S W tW xl v r Q hQ
  simp only [Rep] at r
  obtain ⟨a, vs, rfl, h1, h2⟩ := r
  refine (pg_tup hX.calm pgs_wp (hn _) (hst _)).wp ?_
  refine ⟨a, vs, rfl, sqt (S.wf.ex.tp _ _ h1), by rw [← h2.length, hl], ?_⟩
  exact h X hX b F H σ S W tW xl vs h2 Q hQ
/-- target = value -/
theorem s_asg {tg e : Expr} {pos : Pos} (h : E c N env e fun z env1 => G c N env1 tg z Ψ.nx) (hs : ∀ env, swapsWithSole [tg] e pos.line env = pure false) (hw : ∀ env, swappedStores [tg] e env = pure none) (h1 : ∀ env, (assignEach [tg] env).map (·.2) = [assign tg env]) : S1 c N env (.Assign [tg] e pos) Ψ := by
  intro X hX b F H σ S W tW xl D L
  refine (ps_asg pe_wp pg_wp (hs _) (hw _) (h1 _)).wp ?_
  refine h X hX b F H σ S W tW xl _ fun z env1 v F1 H1 h1 f1 S1 r1 => ?_
  exact h1 X hX b F1 H1 σ S1 W tW (xl.fe f1) v r1 _ fun env2 σ2 F2 H2 h2 f2 S2 => L.nx env2 σ2 F2 H2 h2 (f1.trans f2) S2
/-- name = value -/
theorem s_set {x : Str} {i : Nat} {k : NameKind} {e : Expr} {pos pos' : Pos} (h : E c N env e fun z env1 => ∃ f, Put N env1.vs x i f ∧ Ψ.nx ⟨f z, env1.rs⟩) (hk : Kn c.nm x k) (hv : locK k = true) (hi : Ix N x i) (hs : ∀ env, swapsWith e (some (.Name x pos')) pos.line env = pure false) : S1 c N env (.Assign [.Name x pos'] e pos) Ψ := by
  intro X hX b F H σ S W tW xl D L
  refine (ps_set (i := i) (by rw [hX.gN]; exact hX.nd) (by rw [hX.gN]; exact hi.ok) (hX.loc hk hv) pe_wp (hs _) (hX.fnx hk hv)).wp ?_
  refine h X hX b F H σ S W tW xl _ fun z env1 v F1 H1 h1 f1 S1 r1 => ?_
  obtain ⟨f, hp, hn⟩ := h1
  exact L.nx _ _ F1 H1 hn f1 (S1.put hp r1)
/-- name = something new that is to be changed -/
theorem s_new {x : Str} {i : Nat} {k : NameKind} {e : Expr} {pos pos' : Pos} (h : EO c N env e fun z env1 => ∀ w, ∃ f, Put N env1.vs x i f ∧ Ψ.nx ⟨f (.raw w), (w, z) :: env1.rs⟩) (hk : Kn c.nm x k) (hv : locK k = true) (hi : Ix N x i) (hs : ∀ env, swapsWith e (some (.Name x pos')) pos.line env = pure false) : S1 c N env (.Assign [.Name x pos'] e pos) Ψ := by
  intro X hX b F H σ S W tW xl D L
  refine (ps_set (i := i) (by rw [hX.gN]; exact hX.nd) (by rw [hX.gN]; exact hi.ok) (hX.loc hk hv) pe_wp (hs _) (hX.fnx hk hv)).wp ?_
  refine h X hX b F H σ S W tW xl _ fun z env1 v F1 H1 h1 f1 S1 => ?_
  obtain ⟨f, hp, hn⟩ := h1 v
  exact L.nx _ _ F1 H1 hn f1 (S1.put (z := .raw v) hp (by simp only [Rep]))
/-- a, b = e1, e2 -/
theorem s_par {x y : Str} {i j : Nat} {e1 e2 : Expr} {px py pt pt2 pos : Pos} {kt k2 : Nat} (h : EA c N env [e1, e2] fun zs env1 => ∃ z1 z2 f, zs = [z1, z2] ∧ Put N env1.vs x i f ∧ ∃ g, Put N (f z1) y j g ∧ Ψ.nx ⟨g z2, env1.rs⟩)
    (hkx : Kn c.nm x .local) (hky : Kn c.nm y .local) (hi : Ix N x i) (hj : Ix N y j) (hij : i ≠ j)
    (hxy : (x == y) = false) (hpl : py.line = px.line) (h1 : ([e1, e2].any fun | .Starred .. => true | _ => false) = false) (h2 : [e1, e2].all (foldedForSure 8) = false) (h3 : [e1, e2].all (constantsAlone 8) = false) (hs : ∀ env, swapsWithSole [.Tuple [.Name x px, .Name y py] kt pt] (.Tuple [e1, e2] k2 pt2) pos.line env = pure false) :
    S1 c N env (.Assign [.Tuple [.Name x px, .Name y py] kt pt] (.Tuple [e1, e2] k2 pt2) pos) Ψ := by
  intro X hX b F H σ S W tW xl D L
  have lx : X.env.scope.names.lookup x = some .local := by
    rcases hX.kn x _ hkx.mem with e | ⟨e, _⟩
    · exact e
    · cases e
  have ly : X.env.scope.names.lookup y = some .local := by
    rcases hX.kn y _ hky.mem with e | ⟨e, _⟩
    · exact e
    · cases e
  refine (ps_par hX.calm (by rw [hX.gN]; exact hX.nd) (by rw [hX.gN]; exact hi.ok) (by rw [hX.gN]; exact hj.ok) hij lx ly pa_wp (swapped2 hX.kd lx ly hxy hpl h1 h2 h3) (hs _)).wp ?_
  refine h X hX b F H σ S W tW xl _ fun zs env1 vs F1 H1 h1 f1 S1 r1 => ?_
  obtain ⟨z1, z2, f, rfl, p1, g, p2, hn⟩ := h1
  simp only [Reps] at r1
  obtain ⟨v1, _, rfl, r1, v2, _, rfl, r2, rfl⟩ := r1
  exact ⟨v1, v2, rfl, L.nx _ _ F1 H1 hn f1 ((S1.put p1 r1).put p2 r2)⟩

/-! ### while -/
theorem s_while {e : Expr} {body : List Stmt} {pos : Pos} (I : Nat → Ev → Prop) (h0 : ∃ m, I m env) (h : ∀ m env, I m env → T c N env e fun k env1 => (k = true → R c N env1 body { Ψ with nx := fun env2 => ∃ m', m' < m ∧ I m' env2, ct := fun env2 => ∃ m', m' < m ∧ I m' env2, bk := Ψ.nx }) ∧ (k = false → Ψ.nx env1)) : S1 c N env (.While e body [] pos) Ψ := by
  intro X hX b F H σ S W tW xl D L
  refine (ps_while hX.po pt_wp pss_wp).wp ?_
  obtain ⟨m0, i0⟩ := h0
  refine ⟨fun m σ' H' => ∃ env' F', I m env' ∧ FE F F' ∧ St c.K b F' H' σ' env', ⟨m0, env, F, i0, .refl F, S⟩, ?_⟩
  rintro m σ1 H1 ⟨env1, F1, i1, f1, S1⟩
  refine h m env1 i1 X hX b F1 H1 σ1 S1 W tW (xl.fe f1) _ fun k env2 F2 H2 h2 f2 S2 => ?_
  have f12 := f1.trans f2
  cases k with
  | true =>
    rw [if_pos rfl]
    refine ⟨fun σ' H' => ∃ m', m' < m ∧ ∃ env' F', I m' env' ∧ FE F F' ∧ St c.K b F' H' σ' env', fun σ' H' q => ?_, ?_⟩
    · obtain ⟨m', hm, q⟩ := q
      exact ⟨m', hm, q⟩
    · refine h2.1 rfl X hX b F2 H2 σ1 S2 W tW (xl.fe f12) _ ⟨fun env3 σ3 F3 H3 q f3 S3 => ?_, fun z env3 v σ3 F3 H3 q f3 S3 => L.rt z env3 v σ3 F3 H3 q (f12.trans f3) S3, fun env3 σ3 F3 H3 q f3 S3 => L.nx env3 σ3 F3 H3 q (f12.trans f3) S3, fun env3 σ3 F3 H3 q f3 S3 => ?_⟩
      · obtain ⟨m', hm, q⟩ := q
        exact ⟨m', hm, env3, F3, q, f12.trans f3, S3⟩
      · obtain ⟨m', hm, q⟩ := q
        exact ⟨m', hm, env3, F3, q, f12.trans f3, S3⟩
  | false =>
    rw [if_neg Bool.false_ne_true]
    exact L.nx env2 σ1 F2 H2 (h2.2 rfl) f12 S2

/-! ### for -/
def wpI (X : Cx) (tg iter : Expr) : TI := fun σ H Rr => ∀ pins s, Inv X pins σ H s → wpAny (model X.prog X.w) X.A (eval iter X.env) (fun v s1 => wpAny (model X.prog X.w) X.A (pyIter v) (PIE X pins σ tg Rr) X.xe s1) X.xe s
theorem pi_wp {X : Cx} {tg iter : Expr} : PI X tg iter (wpI X tg iter) := ⟨fun pins s σ H R I h => h pins s I⟩
theorem _root_.L2.PI.wp {X : Cx} {tg iter : Expr} {t : TI} (h : PI X tg iter t) {σ : L2.St} {H : Hp} {Rr : It → Hp → Prop} (q : t σ H Rr) : wpI X tg iter σ H Rr := fun pins s I => h.run pins s σ H Rr I q
/-- the items, one by one, as long as cond is true of the state -/
structure Ylds (K : PySem.W.Frag) (F0 : Hp) (J : It) (zs : List D) (cond : Ev → Prop) : Prop where
  item : ∀ i z, zs[i]? = some z → ∀ b F H σ env, St K b F H σ env → FE F0 F → cond env → J.go i H ∧ ∀ x H', J.yld i H x H' → ∃ F', Le F H F' H' ∧ Rep K F' z x
  done : ∀ b F H σ env, St K b F H σ env → FE F0 F → cond env → J.stop zs.length H
def IT (c : Ctx) (N : List Str) (env : Ev) (tg iter : Expr) (Φ : List D → (Ev → Prop) → Ev → Prop) : Prop :=
  ∀ X, Good c N X → ∀ b F H σ, St c.K b F H σ env → ∀ W, Takes X W → XL c b F W → ∀ Rr : It → Hp → Prop,
    (∀ zs cond env' J F' H', Φ zs cond env' → FE F F' → St c.K b F' H' σ env' → Ylds c.K F' J zs cond → Rr J H') → wpI X tg iter σ H Rr
theorem s_for {tg iter : Expr} {body : List Stmt} {pos : Pos} (h : IT c N env tg iter fun zs cond env1 => ∃ I : Nat → Ev → Prop, I 0 env1 ∧ (∀ k env2, k ≤ zs.length → I k env2 → cond env2) ∧
      (∀ k z env2, zs[k]? = some z → I k env2 → G c N env2 tg z fun env3 => R c N env3 body { Ψ with nx := I (k + 1), ct := I (k + 1), bk := Ψ.nx }) ∧ (∀ env2, I zs.length env2 → Ψ.nx env2))
    (hs : ∀ env x, foldedSetIterable iter env x = pure x) : S1 c N env (.For tg iter body [] pos) Ψ := by
  intro X hX b F H σ S W tW xl D L
  refine (ps_for hX.po hX.calm pi_wp pg_wp pss_wp (hs _)).wp ?_
  refine h X hX b F H σ S W tW xl _ fun zs cond env1 J F1 H1 h1 f1 S1 Y1 => ?_
  obtain ⟨I, i0, hc, hb, hd⟩ := h1
  refine ⟨fun i m σ' H' => m = zs.length - i ∧ i ≤ zs.length ∧ ∃ env' F', I i env' ∧ FE F1 F' ∧ St c.K b F' H' σ' env', ⟨zs.length, by simp, Nat.zero_le _, env1, F1, i0, .refl _, S1⟩, ?_⟩
  rintro i m σ2 H2 ⟨rfl, hi, env2, F2, i2, f2, S2⟩
  have f12 := f1.trans f2
  by_cases hlt : i < zs.length
  · obtain ⟨z, hz⟩ : ∃ z, zs[i]? = some z := ⟨zs[i], List.getElem?_eq_getElem hlt⟩
    obtain ⟨go, yl⟩ := Y1.item i z hz b F2 H2 σ2 env2 S2 f2 (hc i env2 hi i2)
    refine .inr ⟨go, fun σ' H' => ∃ env' F', I (i + 1) env' ∧ FE F1 F' ∧ St c.K b F' H' σ' env', fun σ' H' q => ⟨zs.length - (i + 1), by omega, rfl, hlt, q⟩, fun x H' y => ?_⟩
    obtain ⟨F3, l3, r3⟩ := yl x H' y
    have f123 := f12.trans l3.ff
    refine hb i z env2 hz i2 X hX b F3 H' σ2 (S2.step l3) W tW (xl.fe f123) x r3 _ fun env4 σ4 F4 H4 h4 f4 S4 => ?_
    have ff := f123.trans f4
    have fg := (f2.trans l3.ff).trans f4
    exact h4 X hX b F4 H4 σ4 S4 W tW (xl.fe ff) _ ⟨fun env5 σ5 F5 H5 q f5 S5 => ⟨env5, F5, q, fg.trans f5, S5⟩, fun z env5 v σ5 F5 H5 q f5 S5 => L.rt z env5 v σ5 F5 H5 q (ff.trans f5) S5, fun env5 σ5 F5 H5 q f5 S5 => L.nx env5 σ5 F5 H5 q (ff.trans f5) S5, fun env5 σ5 F5 H5 q f5 S5 => ⟨env5, F5, q, fg.trans f5, S5⟩⟩
  · have e : i = zs.length := by omega
    subst e
    exact .inl ⟨Y1.done b F2 H2 σ2 env2 S2 f2 (hc _ env2 hi i2), L.nx env2 σ2 F2 H2 (hd env2 i2) f12 S2⟩
end
section
variable {c : Ctx} {N : List Str} {env : Ev} {tg : Expr} {Φ : List D → (Ev → Prop) → Ev → Prop}
/-- what is walked: a tuple, a list that stands still -/
def D.items : D → Option (List D)
  | .tup zs => some zs
  | .lst zs => some zs
  | _ => none
theorem it_tup {e : Expr} (h : E c N env e fun z env1 => ∃ zs, z = .tup zs ∧ Φ zs (fun _ => True) env1) : IT c N env tg e Φ := by
  intro X hX b F H σ S W tW xl Rr hR
  refine (pi_tup pe_wp).wp ?_
  refine h X hX b F H σ S W tW xl _ fun z env1 v F1 H1 h1 f1 S1 r1 => ?_
  obtain ⟨zs, rfl, hz⟩ := h1
  simp only [Rep] at r1
  obtain ⟨a, vs, rfl, g1, g2⟩ := r1
  refine ⟨a, rfl, ⟨vs, sqt (S1.wf.ex.tp _ _ g1)⟩, hR zs _ env1 _ F1 H1 hz f1 S1 ⟨fun i z e b F H σ env S f _ => ?_, fun b F H σ env S f _ => ?_⟩⟩
  · obtain ⟨v, e1, r⟩ := g2.get e
    have sq : SqT X.K H a vs := sqt (S.wf.ex.tp _ _ (f _ _ g1))
    refine ⟨⟨vs, v, sq, e1⟩, fun x H' y => ?_⟩
    obtain ⟨rfl, y⟩ := y
    have := y vs sq
    rw [e1] at this
    cases this
    exact ⟨F, .refl S.wf, f.rep r⟩
  · exact ⟨vs, sqt (S.wf.ex.tp _ _ (f _ _ g1)), by rw [g2.length]; exact Nat.le_refl _⟩
theorem it_lst {e : Expr} (h : E c N env e fun z env1 => ∃ zs, z = .lst zs ∧ Φ zs (fun _ => True) env1) : IT c N env tg e Φ := by
  intro X hX b F H σ S W tW xl Rr hR
  refine (pi_list pe_wp).wp ?_
  refine h X hX b F H σ S W tW xl _ fun z env1 v F1 H1 h1 f1 S1 r1 => ?_
  obtain ⟨zs, rfl, hz⟩ := h1
  simp only [Rep] at r1
  obtain ⟨a, vs, rfl, g1, g2⟩ := r1
  refine ⟨a, rfl, ⟨vs, by rw [hX.gK]; exact S1.wf.ex.sqL g1⟩, hR zs _ env1 _ F1 H1 hz f1 S1 ⟨fun i z e b F H σ env S f _ => ?_, fun b F H σ env S f _ => ?_⟩⟩
  · obtain ⟨v, e1, r⟩ := g2.get e
    have sq : SqL X.K H a vs := by rw [hX.gK]; exact S.wf.ex.sqL (f.ex.sqL g1)
    refine ⟨⟨vs, v, sq, e1⟩, fun x H' y => ?_⟩
    obtain ⟨rfl, y⟩ := y
    have := y vs sq
    rw [e1] at this
    cases this
    exact ⟨F, .refl S.wf, f.rep r⟩
  · exact ⟨vs, by rw [hX.gK]; exact S.wf.ex.sqL (f.ex.sqL g1), by rw [g2.length]; exact Nat.le_refl _⟩
theorem ylds_range {K : PySem.W.Frag} {F0 : Hp} {lo : Int} {n : Nat} : Ylds K F0 (Itr lo n) ((List.range n).map fun i => D.int (lo + (i : Nat))) (fun _ => True) := by
  refine ⟨fun i z e b F H σ env S f _ => ?_, fun b F H σ env S f _ => ?_⟩
  · obtain ⟨hi, e⟩ := List.getElem?_eq_some_iff.mp e
    simp only [List.length_map, List.length_range] at hi
    simp only [List.getElem_map, List.getElem_range] at e
    refine ⟨hi, fun x H' y => ?_⟩
    obtain ⟨rfl, rfl⟩ := y
    exact ⟨F, .refl S.wf, by subst e; simp only [Rep]⟩
  · show n ≤ _
    simp
theorem it_range1 {a : Expr} {p pos : Pos} (hm : c.g.mg "range" = none) (hk : Kn c.nm "range" .globalImplicit) (h : E c N env a fun z env1 => ∃ n : Int, z = .int n ∧ -(2 ^ 62) ≤ n ∧ n < 2 ^ 62 ∧ Φ ((List.range n.toNat).map fun i => D.int (0 + (i : Nat))) (fun _ => True) env1) (hs : ∀ env, starEach [a] env = [(false, eval a env)]) : IT c N env tg (.Call (.Name "range" p) [a] [] pos) Φ := by
  intro X hX b F H σ S W tW xl Rr hR
  refine (pi_range1 (hX.gl hk) (by rw [hX.gmg]; exact hm) (pa_cons pe_wp pa_nil (hs _)) (hs _)).wp ?_
  refine h X hX b F H σ S W tW xl _ fun z env1 v F1 H1 h1 f1 S1 r1 => ?_
  obtain ⟨n, rfl, b1, b2, hz⟩ := h1
  simp only [Rep] at r1
  subst r1
  exact ⟨n, rfl, b1, b2, hR _ _ env1 _ F1 H1 hz f1 S1 ylds_range⟩
end
end Y
namespace Y
open PySem L2

/-! ### nodes -/
def Shape : O → HO → Prop
  | .l os, u => ∃ us, u = .lst us ∧ os.length = us.length
  | .d ks os, u => ∃ us, u = .dT (ks.zip us) ∧ ks.length = os.length ∧ os.length = us.length
  | .dk ks os, u => ∃ us, u = .dK (ks.zip us) ∧ ks.length = os.length ∧ os.length = us.length
  | .i C ns os, u => ∃ dx us, u = .ins C dx (ns.zip us) ∧ ns.length = os.length ∧ os.length = us.length
  | .kd ob us ks os, u => u = .frz ob (.dT (ks.zip us)) ∧ ks.length = os.length ∧ os.length = us.length
  | _, _ => False
def O.node : O → Bool
  | .s _ => false
  | .h _ => false
  | _ => true
section
variable {K : PySem.W.Frag} {F H F' H' : Hp} {b : Hp × Hp} {σ : List (Option V)} {vs : List (Option D)} {rs rs' ys : Rs} {w : V} {t : O}
theorem Shape.noTup {t : O} {u : HO} (h : Shape t u) : NoTup u := by
  cases t with
  | s z => exact h.elim
  | h z => exact h.elim
  | l os => obtain ⟨us, rfl, _⟩ := h; trivial
  | d ks os => obtain ⟨us, rfl, _⟩ := h; trivial
  | dk ks os => obtain ⟨us, rfl, _⟩ := h; trivial
  | i C ns os => obtain ⟨dx, us, rfl, _⟩ := h; trivial
  | kd ob us ks os => obtain ⟨rfl, _⟩ := h; trivial
theorem Own.open {A : Addr → Prop} (hn : t.node = true) (h : Own K F H t w A) : ∃ a u, w = .ref a ∧ A a ∧ F a = none ∧ H a = some u ∧ Shape t u ∧ Owns K F H t.kids (kidsV u) (fun x => A x ∧ x ≠ a) := by
  cases t with
  | s z => cases hn
  | h z => cases hn
  | l os =>
    simp only [Own] at h
    obtain ⟨a, us, h1, h2, h3, h4, h5⟩ := h
    exact ⟨a, _, h1, h2, h3, h4, ⟨us, rfl, h5.length⟩, h5⟩
  | d ks os =>
    simp only [Own] at h
    obtain ⟨a, us, h1, h2, h3, h4, h6, h5⟩ := h
    exact ⟨a, _, h1, h2, h3, h4, ⟨us, rfl, h6, h5.length⟩, by rw [show kidsV (.dT (ks.zip us)) = us from zip_snd (h6.trans h5.length)]; exact h5⟩
  | dk ks os =>
    simp only [Own] at h
    obtain ⟨a, us, h1, h2, h3, h4, h6, h5⟩ := h
    exact ⟨a, _, h1, h2, h3, h4, ⟨us, rfl, h6, h5.length⟩, by rw [show kidsV (.dK (ks.zip us)) = us from zip_snd (h6.trans h5.length)]; exact h5⟩
  | i C ns os =>
    simp only [Own] at h
    obtain ⟨a, dx, us, h1, h2, h3, h4, h6, h5⟩ := h
    exact ⟨a, _, h1, h2, h3, h4, ⟨dx, us, rfl, h6, h5.length⟩, by rw [show kidsV (.ins C dx (ns.zip us)) = us from zip_snd (h6.trans h5.length)]; exact h5⟩
  | kd ob us ks os =>
    simp only [Own] at h
    obtain ⟨a, h1, h2, h3, h4, h6, h5⟩ := h
    exact ⟨a, _, h1, h2, h3, h4, ⟨rfl, h6, h5.length⟩, by rw [show kidsV (.frz ob (.dT (ks.zip us))) = us from zip_snd (h6.trans h5.length)]; exact h5⟩
theorem Own.close {A : Addr → Prop} {a : Addr} {u : HO} (hs : Shape t u) (h2 : A a) (h3 : F a = none) (h4 : H a = some u) (h5 : Owns K F H t.kids (kidsV u) (fun x => A x ∧ x ≠ a)) : Own K F H t (.ref a) A := by
  cases t with
  | s z => exact hs.elim
  | h z => exact hs.elim
  | l os =>
    obtain ⟨us, rfl, e⟩ := hs
    simp only [Own]
    exact ⟨a, us, rfl, h2, h3, h4, h5⟩
  | d ks os =>
    obtain ⟨us, rfl, e1, e⟩ := hs
    rw [show kidsV (.dT (ks.zip us)) = us from zip_snd (e1.trans e)] at h5
    simp only [Own]
    exact ⟨a, us, rfl, h2, h3, h4, e1, h5⟩
  | dk ks os =>
    obtain ⟨us, rfl, e1, e⟩ := hs
    rw [show kidsV (.dK (ks.zip us)) = us from zip_snd (e1.trans e)] at h5
    simp only [Own]
    exact ⟨a, us, rfl, h2, h3, h4, e1, h5⟩
  | i C ns os =>
    obtain ⟨dx, us, rfl, e1, e⟩ := hs
    rw [show kidsV (.ins C dx (ns.zip us)) = us from zip_snd (e1.trans e)] at h5
    simp only [Own]
    exact ⟨a, dx, us, rfl, h2, h3, h4, e1, h5⟩
  | kd ob us ks os =>
    obtain ⟨rfl, e1, e⟩ := hs
    rw [show kidsV (.frz ob (.dT (ks.zip us))) = us from zip_snd (e1.trans e)] at h5
    simp only [Own]
    exact ⟨a, rfl, h2, h3, h4, e1, h5⟩
theorem Le.write {a : Addr} {o : HO} (l : Le b.1 b.2 F H) (n : NoTup o) (h1 : F a = none) (h2 : b.2 a = none) : Le b.1 b.2 F (L2.upd H a o) :=
  ⟨l.ff, l.wf.write n h1, fun x u e => by rw [upd_ne (ne_of_none e h2)]; exact l.ex x u e, l.nw⟩
/-- A NODE REWRITTEN: the resources ys come in, xs go out -/
theorem St.nodeW (S : St K b F H σ ⟨vs, rs⟩) (hr : rs.Perm ((w, t) :: (ys ++ rs'))) (hn : t.node = true) : ∃ (a : Addr) (u : HO) (A : Addr → Prop), w = .ref a ∧ H a = some u ∧ F a = none ∧ Shape t u ∧ Owns K F H (t.kids ++ ys.map (·.2)) (kidsV u ++ ys.map (·.1)) A ∧
    ∀ (t' : O) (u' : HO) (xs : Rs), Shape t' u' → Owns K F H (t'.kids ++ xs.map (·.2)) (kidsV u' ++ xs.map (·.1)) A → St K b F (L2.upd H a u') σ ⟨vs, (w, t') :: (xs ++ rs')⟩ := by
  have ow : RsR K F H _ _ := S.ow.perm hr
  obtain ⟨B, h1, h2⟩ := ow.uncons
  obtain ⟨B2, h3, h4⟩ := h2.spl
  obtain ⟨a, u, rfl, ha, hf, hu, sh, hk⟩ := h1.open hn
  let A : Addr → Prop := fun x => (b.2 x = none ∧ (B x ∨ B2 x)) ∧ x ≠ a
  have nb : ∀ x u, b.2 x = none → ¬ B x → B2 x → F x = none → H x = some u → x ≠ a := fun x u h hB hB2 hF hH z => by
    subst z; exact hB ha.2
  have hy : Owns K F H (ys.map (·.2)) (ys.map (·.1)) (fun x => A x ∧ ¬ B x) := Owns.frame (.refl F) _ _ _ _ (fun x u hx hF hH => ⟨⟨⟨⟨hx.1.1, .inr hx.2⟩, nb x u hx.1.1 hx.1.2 hx.2 hF hH⟩, hx.1.2⟩, hF, hH⟩) h3
  have hk' : Owns K F H t.kids (kidsV u) (fun x => A x ∧ B x) := hk.reg fun x hx => ⟨⟨⟨hx.1.1, .inl hx.1.2⟩, hx.2⟩, hx.1.2⟩
  refine ⟨a, u, A, rfl, hu, hf, sh, Owns.app hk' hy, fun t' u' xs hs ho => ?_⟩
  have neq : ∀ x u0, F x = none → H x = some u0 → x ≠ a → L2.upd H a u' x = some u0 := fun x u0 _ hH z => by rw [upd_ne z]; exact hH
  have ho' : Owns K F (L2.upd H a u') (t'.kids ++ xs.map (·.2)) (kidsV u' ++ xs.map (·.1)) A := Owns.frame (.refl F) _ _ _ _ (fun x u0 hx hF hH => ⟨hx, hF, neq x u0 hF hH hx.2⟩) ho
  have hl : t'.kids.length = (kidsV u').length := by
    cases t' with
    | s z => exact hs.elim
    | h z => exact hs.elim
    | l os => obtain ⟨us, rfl, e⟩ := hs; exact e
    | d ks os => obtain ⟨us, rfl, e1, e⟩ := hs; rw [show kidsV (.dT (ks.zip us)) = us from zip_snd (e1.trans e)]; exact e
    | dk ks os => obtain ⟨us, rfl, e1, e⟩ := hs; rw [show kidsV (.dK (ks.zip us)) = us from zip_snd (e1.trans e)]; exact e
    | i C ns os => obtain ⟨dx, us, rfl, e1, e⟩ := hs; rw [show kidsV (.ins C dx (ns.zip us)) = us from zip_snd (e1.trans e)]; exact e
    | kd ob us ks os => obtain ⟨rfl, e1, e⟩ := hs; rw [show kidsV (.frz ob (.dT (ks.zip us))) = us from zip_snd (e1.trans e)]; exact e
  obtain ⟨B3, g1, g2⟩ := Owns.spl hl ho'
  refine ⟨S.le.write hs.noTup hf ha.1, S.vr, ?_⟩
  refine .cons (fun x => x = a ∨ (A x ∧ B3 x)) (Own.close hs ⟨ha.1, .inl rfl⟩ hf upd_same (g1.reg fun x hx => ⟨⟨hx.1.1.1, .inr hx⟩, hx.1.2⟩)) ?_
  refine RsR.app (B := fun x => A x ∧ ¬ B3 x) (Owns.reg g2 fun x hx => ⟨⟨hx.1.1.1, fun z => z.elim hx.1.2 fun z => hx.2 z.2⟩, hx⟩) ?_
  refine RsR.frame (.refl F) (fun x u0 hx hF hH => ?_) h4
  have na : x ≠ a := fun z => by subst z; exact hx.1.2 ha.2
  refine ⟨⟨⟨hx.1.1, fun z => z.elim na fun z => z.1.1.2.elim hx.1.2 hx.2⟩, fun z => z.1.1.2.elim hx.1.2 hx.2⟩, hF, neq x u0 hF hH na⟩
end

section
variable {c : Ctx} {N : List Str} {env : Ev}
/-! ### ownership handed on -/
theorem EO.imp {e : Expr} {Φ Φ' : O → Ev → Prop} (h : EO c N env e Φ) (g : ∀ z env1, Φ z env1 → Φ' z env1) : EO c N env e Φ' :=
  fun X hX b F H σ S W tW xl Q hQ => h X hX b F H σ S W tW xl Q fun z env1 v F1 H1 p => hQ z env1 v F1 H1 (g z env1 p)
/-- what a pointer points to, handed on -/
theorem eo_mv {e : Expr} {Φ : O → Ev → Prop} (h : E c N env e fun z env1 => ∃ w t rs', z = .raw w ∧ Tak env1.rs w t rs' ∧ Φ t ⟨env1.vs, rs'⟩) : EO c N env e Φ := by
  intro X hX b F H σ S W tW xl Q hQ
  refine h X hX b F H σ S W tW xl Q fun z env1 v F1 H1 p f S1 r => ?_
  obtain ⟨w, t, rs', rfl, hr, hp⟩ := p
  simp only [Rep] at r
  subst r
  exact hQ t ⟨env1.vs, rs'⟩ _ F1 H1 hp f ⟨S1.le, S1.vr, S1.ow.perm hr.perm⟩
/-- the part of a resource that is pointed to, given back -/
inductive Back : O → V → O → O → Prop
  | l {os : List O} {j : Nat} {v : V} {t : O} : os[j]? = some (.h v) → Back (.l os) v t (.l (os.set j t))
  | d {ks : List (List Key)} {os : List O} {j : Nat} {v : V} {t : O} : os[j]? = some (.h v) → Back (.d ks os) v t (.d ks (os.set j t))
  | dk {ks : List Key} {os : List O} {j : Nat} {v : V} {t : O} : os[j]? = some (.h v) → Back (.dk ks os) v t (.dk ks (os.set j t))
  | i {C : Addr} {ns : List Str} {os : List O} {j : Nat} {v : V} {t : O} : os[j]? = some (.h v) → Back (.i C ns os) v t (.i C ns (os.set j t))
end
/-! list-set lemmas for ownership -/
section
variable {K : PySem.W.Frag} {F H : Hp}
/-- the j-th of a list of trees goes out, a hole stands for it -/
theorem Owns.hole {os : List O} {vs : List V} {A : Addr → Prop} {j : Nat} {t : O} (h : Owns K F H os vs A) (e : os[j]? = some t) : ∃ v, vs[j]? = some v ∧ Owns K F H (os.set j (.h v) ++ [t]) (vs ++ [v]) A := by
  obtain ⟨v, B, h1, h2, h3⟩ := h.at e
  refine ⟨v, h1, ?_⟩
  have q := h3 F H (.h v) v (fun a => A a ∧ ¬ B a) (fun _ => False) (.refl F) (fun a u ha hf hu => ⟨⟨⟨ha.1, ha.2⟩, fun z => z⟩, hf, hu⟩) (by simp only [Own])
  rw [set_same h1] at q
  exact Owns.app (B := fun a => ¬ B a) q (.cons (fun _ => True) (h2.reg fun a ha => ⟨⟨ha.1, fun z => z ha.2⟩, True.intro⟩) .nil)
theorem Owns.unhole {os : List O} {vs : List V} {A : Addr → Prop} {j : Nat} {t : O} {v : V} (h : Owns K F H (os ++ [t]) (vs ++ [v]) A) (hl : os.length = vs.length) (e : os[j]? = some (.h v)) : Owns K F H (os.set j t) vs A := by
  obtain ⟨B, h1, h2⟩ := Owns.spl hl h
  obtain ⟨B2, h3, _⟩ := h2.uncons
  obtain ⟨v', B3, g1, g2, g3⟩ := h1.at e
  simp only [Own] at g2
  subst g2
  have q := g3 F H t v' A (fun a => ¬ B a) (.refl F) (fun a u ha hf hu => ⟨⟨ha.1.1, fun z => z ha.1.2⟩, hf, hu⟩) (h3.reg fun a ha => ⟨ha.1.1, ha.1.2⟩)
  rw [set_same g1] at q
  exact q
end
section
variable {K : PySem.W.Frag} {F H : Hp} {b : Hp × Hp} {σ : List (Option V)} {vs : List (Option D)} {rs rs' : Rs} {w : V} {t : O}
theorem upd_self {H : Hp} {a : Addr} {u : HO} (h : H a = some u) : L2.upd H a u = H := by
  funext x
  by_cases z : x = a
  · subst z; rw [upd_same, h]
  · rw [upd_ne z]
/-- given back -/
theorem St.back {f : O → Rs} {rs1 : Rs} {v : V} {t t0 t1 : O} (S : St K b F H σ ⟨vs, rs⟩) (h1 : Tak rs v t rs1) (h2 : Res rs1 w t0 f) (hb : Back t0 v t t1) : St K b F H σ ⟨vs, f t1⟩ := by
  obtain ⟨rs', p1, p2⟩ := h2.ok
  have pp : rs.Perm ((w, t0) :: ([(v, t)] ++ rs')) := h1.perm.trans ((p1.cons _).trans (.swap _ _ _))
  have hn : t0.node = true := by cases hb <;> rfl
  obtain ⟨a, u, A, rfl, hu, hf, sh, hk, go⟩ := S.nodeW pp hn
  have key : Shape t1 u ∧ Owns K F H (t1.kids ++ ([] : Rs).map (·.2)) (kidsV u ++ ([] : Rs).map (·.1)) A := by
    simp only [List.map_nil, List.append_nil]
    simp only [List.map_cons, List.map_nil] at hk
    cases hb with
    | l e =>
      obtain ⟨us, rfl, e1⟩ := sh
      exact ⟨⟨us, rfl, by simpa using e1⟩, Owns.unhole hk e1 e⟩
    | d e =>
      obtain ⟨us, rfl, e0, e1⟩ := sh
      rw [show kidsV (.dT (_ : List (List Key × V))) = us from zip_snd (e0.trans e1)] at hk ⊢
      exact ⟨⟨us, rfl, by simpa using e0, by simpa using e1⟩, Owns.unhole hk e1 e⟩
    | dk e =>
      obtain ⟨us, rfl, e0, e1⟩ := sh
      rw [show kidsV (.dK (_ : List (Key × V))) = us from zip_snd (e0.trans e1)] at hk ⊢
      exact ⟨⟨us, rfl, by simpa using e0, by simpa using e1⟩, Owns.unhole hk e1 e⟩
    | i e =>
      obtain ⟨dx, us, rfl, e0, e1⟩ := sh
      rw [show kidsV (.ins _ dx (_ : List (Str × V))) = us from zip_snd (e0.trans e1)] at hk ⊢
      exact ⟨⟨dx, us, rfl, by simpa using e0, by simpa using e1⟩, Owns.unhole hk e1 e⟩
  have q := go t1 u [] key.1 key.2
  rw [upd_self hu] at q
  exact ⟨q.le, q.vr, RsR.perm (p2 t1) q.ow⟩
end
section
variable {c : Ctx} {N : List Str} {env : Ev} {Ψ : Post}
theorem r_back {st : List Stmt} {f : O → Rs} {rs1 : Rs} {v w : V} {t t0 t1 : O} (h1 : Tak env.rs v t rs1) (h2 : Res rs1 w t0 f) (hb : Back t0 v t t1) (h : R c N ⟨env.vs, f t1⟩ st Ψ) : R c N env st Ψ :=
  fun X hX b F H σ S => h X hX b F H σ (S.back h1 h2 hb)
end

/-! ### lists -/
section
variable {c : Ctx} {N : List Str} {env : Ev}
theorem lt_line {n : Nat} (h : n ≤ 1000000) : n < sizeLine := Nat.lt_of_le_of_lt h (by decide)
/-- how the call of a method lies -/
structure Mth0 (o : Expr) (m : Str) (apos cpos : Pos) : Prop where
  base : ∀ env, attributeBase o m env (eval o env) = eval o env
  line : (apos.endLine == cpos.line) = true
structure Mth1 (o : Expr) (m : Str) (a : Expr) (apos cpos : Pos) : Prop where
  base : ∀ env, attributeBase o m env (eval o env) = eval o env
  few : ∀ env, ((backTo cpos (starEach [a] env)).all (fun x => !x.1) && (backToKw cpos (keywordEach [] env)).all (fun x => x.1.isSome) && decide ([a].length + ([] : List Keyword).length + (if ([] : List Keyword).isEmpty then 0 else 1) < 30)) = true
  line : (apos.endLine == cpos.line) = true
  star : ∀ env, starEach [a] env = (false, eval a env) :: starEach [] env
  plain : ∀ env, (backTo cpos (starEach [] env)).any (·.1) = false
theorem St.lst {K : PySem.W.Frag} {F H : Hp} {b : Hp × Hp} {σ : List (Option V)} {w : V} {os : List O} {f : O → Rs} (S : St K b F H σ env) (h : Res env.rs w (.l os) f) : ∃ a us, w = .ref a ∧ H a = some (.lst us) ∧ os.length = us.length := by
  obtain ⟨B, g, _⟩ := S.res h
  simp only [Own] at g
  obtain ⟨a, us, h1, h2, h3, h4, h5⟩ := g
  exact ⟨a, us, h1, h4, h5.length⟩
theorem St.dic {K : PySem.W.Frag} {F H : Hp} {b : Hp × Hp} {σ : List (Option V)} {w : V} {ks : List (List Key)} {os : List O} {f : O → Rs} (S : St K b F H σ env) (h : Res env.rs w (.d ks os) f) : ∃ a us, w = .ref a ∧ H a = some (.dT (ks.zip us)) ∧ ks.length = us.length ∧ os.length = us.length := by
  obtain ⟨B, g, _⟩ := S.res h
  simp only [Own] at g
  obtain ⟨a, us, h1, h2, h3, h4, h6, h5⟩ := g
  exact ⟨a, us, h1, h4, h6.trans h5.length, h5.length⟩
/-- xs.append(e) -/
theorem e_append {o a : Expr} {apos cpos : Pos} {Φ : D → Ev → Prop} (h : E c N env o fun x env1 => ∃ w os1 f1, x = .raw w ∧ Res env1.rs w (.l os1) f1 ∧ EO c N env1 a fun y env2 => ∃ os f, Res env2.rs w (.l os) f ∧ os.length ≤ 1000000 ∧ Φ .non ⟨env2.vs, f (.l (os ++ [y]))⟩)
    (m : Mth1 o "append" a apos cpos) : E c N env (.Call (.Attribute o "append" apos) [a] [] cpos) Φ := by
  intro X hX b F H σ S W tW xl Q hQ
  refine (pe_bm PySem.F.plainAttrs_list PySem.F.slot_list_append PySem.F.type_list_append mt_append pe_wp (pa_cons pe_wp pa_nil (m.star _)) (m.base _) (m.few _) m.line (m.star _) (m.plain _)).wp ?_
  refine h X hX b F H σ S W tW xl _ fun x env1 vx F1 H1 h1 f1 S1 r1 => ?_
  obtain ⟨w, os1, g1, rfl, hr1, h2⟩ := h1
  simp only [Rep] at r1
  subst r1
  obtain ⟨a1, us1, e1, hl1, _⟩ := S1.lst hr1
  subst e1
  refine ⟨.inl ⟨rfl, us1, .inl (.inl hl1)⟩, ?_⟩
  refine h2 X hX b F1 H1 σ S1 W tW (xl.fe f1) _ fun y env2 v F2 H2 h3 f2 S2 => ?_
  obtain ⟨os, f, hr, hz, hp⟩ := h3
  obtain ⟨rs', p1, p2⟩ := hr.ok
  obtain ⟨a2, u, A, e2, hu, hf, sh, hk, go⟩ := S2.nodeW (ys := [(v, y)]) (t := .l os) (w := .ref a1) ((p1.cons _).trans (.swap _ _ _)) rfl
  cases e2
  obtain ⟨us, rfl, e1⟩ := sh
  refine ⟨a1, us, v, rfl, rfl, hu, lt_line (by omega), ?_⟩
  have q := go (.l (os ++ [y])) (.lst (us ++ [v])) [] ⟨_, rfl, by simp [e1]⟩ (by simpa [O.kids, kidsV] using hk)
  exact hQ .non _ .non F2 _ hp (f1.trans f2) ⟨q.le, q.vr, RsR.perm (p2 _) q.ow⟩ (by simp only [Rep])
/-- xs.pop(), the last item a value that stands still -/
theorem e_pop {o : Expr} {apos cpos : Pos} {Φ : D → Ev → Prop} (h : E c N env o fun x env1 => ∃ w os z f, x = .raw w ∧ Res env1.rs w (.l (os ++ [.s z])) f ∧ Φ z ⟨env1.vs, f (.l os)⟩)
    (m : Mth0 o "pop" apos cpos) : E c N env (.Call (.Attribute o "pop" apos) [] [] cpos) Φ := by
  intro X hX b F H σ S W tW xl Q hQ
  refine (pe_bm0 PySem.F.plainAttrs_list PySem.F.slot_list_pop PySem.F.type_list_pop mt_pop pe_wp (m.base _) m.line).wp ?_
  refine h X hX b F H σ S W tW xl _ fun x env1 vx F1 H1 h1 f1 S1 r1 => ?_
  obtain ⟨w, os, z, f, rfl, hr, hp⟩ := h1
  simp only [Rep] at r1
  subst r1
  obtain ⟨rs', p1, p2⟩ := hr.ok
  obtain ⟨a1, u, A, rfl, hu, hf, sh, hk, go⟩ := S1.nodeW (ys := []) (rs' := rs') p1 rfl
  obtain ⟨us, rfl, e1⟩ := sh
  refine ⟨.inl ⟨rfl, us, .inl (.inl hu)⟩, ?_⟩
  -- the last one
  obtain ⟨us', v, rfl⟩ : ∃ us' v, us = us' ++ [v] := by
    refine ⟨us.dropLast, us.getLast (fun z => by rw [z] at e1; simp at e1), (List.dropLast_concat_getLast _).symm⟩
  have e2 : os.length = us'.length := by simpa using e1
  simp only [O.kids, kidsV, List.map_nil, List.append_nil] at hk
  obtain ⟨B, k1, k2⟩ := Owns.spl e2 hk
  obtain ⟨B2, k3, _⟩ := k2.uncons
  simp only [Own] at k3
  refine ⟨a1, us' ++ [v], v, rfl, rfl, hu, by simp, ?_⟩
  rw [List.dropLast_concat]
  have q := go (.l os) (.lst us') [] ⟨_, rfl, e2⟩ (by simpa [O.kids, kidsV] using Owns.reg k1 fun x hx => hx.1)
  exact hQ z _ v F1 _ hp f1 ⟨q.le, q.vr, RsR.perm (p2 _) q.ow⟩ k3
/-- xs[i] of a list that is changed elsewhere, the item a value that stands still -/
theorem e_ixR {a d : Expr} {pos : Pos} {Φ : D → Ev → Prop} (h : E c N env a fun x env1 => E c N env1 d fun y env2 => ∃ w os i z f, x = .raw w ∧ y = .int i ∧ Res env2.rs w (.l os) f ∧ atI os i = some (.s z) ∧ Φ z env2) (hs : PlainIx d) : E c N env (.Subscript a d pos) Φ := by
  intro X hX b F H σ S W tW xl Q hQ
  refine (pe_ix ix_list pe_wp pe_wp hs).wp ?_
  refine h X hX b F H σ S W tW xl _ fun x env1 vx F1 H1 h1 f1 S1 r1 => ?_
  refine h1 X hX b F1 H1 σ S1 W tW (xl.fe f1) _ fun y env2 vy F2 H2 h2 f2 S2 r2 => ?_
  obtain ⟨w, os, i, z, f, rfl, rfl, hr, e, hz⟩ := h2
  simp only [Rep] at r1 r2
  subst r1 r2
  obtain ⟨B, g, _⟩ := S2.res hr
  simp only [Own] at g
  obtain ⟨p, us, rfl, g2, g3, g4, g5⟩ := g
  unfold L2.atI at e
  cases q : ixN os.length i with
  | none => rw [q] at e; simp at e
  | some j =>
    rw [q] at e
    have e : os[j]? = some (.s z) := by simpa using e
    obtain ⟨v, B2, k1, k2, _⟩ := g5.at e
    simp only [Own] at k2
    refine ⟨p, us, i, v, rfl, rfl, .inl (.inl g4), ?_, hQ z env2 v F2 H2 hz (f1.trans f2) S2 k2⟩
    unfold L2.atI
    rw [← g5.length, q]
    simpa using k1
/-- .. an item that is changed elsewhere: it becomes a resource of its own -/
theorem e_ixB {a d : Expr} {pos : Pos} {Φ : D → Ev → Prop} (h : E c N env a fun x env1 => E c N env1 d fun y env2 => ∃ w os i j t f, x = .raw w ∧ y = .int i ∧ Res env2.rs w (.l os) f ∧ ixN os.length i = some j ∧ os[j]? = some t ∧ ∀ v, Φ (.raw v) ⟨env2.vs, (v, t) :: f (.l (os.set j (.h v)))⟩) (hs : PlainIx d) : E c N env (.Subscript a d pos) Φ := by
  intro X hX b F H σ S W tW xl Q hQ
  refine (pe_ix ix_list pe_wp pe_wp hs).wp ?_
  refine h X hX b F H σ S W tW xl _ fun x env1 vx F1 H1 h1 f1 S1 r1 => ?_
  refine h1 X hX b F1 H1 σ S1 W tW (xl.fe f1) _ fun y env2 vy F2 H2 h2 f2 S2 r2 => ?_
  obtain ⟨w, os, i, j, t, f, rfl, rfl, hr, e, et, hz⟩ := h2
  simp only [Rep] at r1 r2
  subst r1 r2
  obtain ⟨rs', p1, p2⟩ := hr.ok
  obtain ⟨a1, u, A, rfl, hu, hf, sh, hk, go⟩ := S2.nodeW (ys := []) (rs' := rs') p1 rfl
  obtain ⟨us, rfl, e1⟩ := sh
  simp only [O.kids, kidsV, List.map_nil, List.append_nil] at hk
  obtain ⟨v, k1, k2⟩ := hk.hole et
  refine ⟨a1, us, i, v, rfl, rfl, .inl (.inl hu), ?_, ?_⟩
  · unfold L2.atI
    rw [← e1, e]
    simpa using k1
  have q := go (.l (os.set j (.h v))) (.lst us) [(v, t)] ⟨_, rfl, by simpa using e1⟩ (by simpa [O.kids, kidsV] using k2)
  rw [upd_self hu] at q
  exact hQ (.raw v) _ v F2 H2 (hz v) (f1.trans f2) ⟨q.le, q.vr, RsR.perm ((List.Perm.swap _ _ _).trans ((p2 _).cons _)) q.ow⟩ (by simp only [Rep])
/-- xs[i] = z -/
theorem g_ixR {a d : Expr} {z : D} {pos : Pos} {Φ : Ev → Prop} (h : E c N env a fun x env1 => E c N env1 d fun y env2 => ∃ w os i j f, x = .raw w ∧ y = .int i ∧ Res env2.rs w (.l os) f ∧ ixN os.length i = some j ∧ Φ ⟨env2.vs, f (.l (os.set j (.s z)))⟩)
    (ha : ∀ env v, assign (.Subscript a d pos) env v = (do
      let ov ← holding [v] (eval a env)
      let iv ← holding [v, ov] (eval d env)
      standAt pos
      holding [v, ov, iv] (setItem ov iv v)
      release [v, ov, iv] [])) : G c N env (.Subscript a d pos) z Φ := by
  intro X hX b F H σ S W tW xl v r Q hQ
  refine (pg_sub pe_wp pe_wp set_list (ha _)).wp ?_
  refine h X hX b F H σ S W tW xl _ fun x env1 vx F1 H1 h1 f1 S1 r1 => ?_
  refine h1 X hX b F1 H1 σ S1 W tW (xl.fe f1) _ fun y env2 vy F2 H2 h2 f2 S2 r2 => ?_
  obtain ⟨w, os, i, j, f, rfl, rfl, hr, e, hz⟩ := h2
  simp only [Rep] at r1 r2
  subst r1 r2
  obtain ⟨rs', p1, p2⟩ := hr.ok
  obtain ⟨a1, u, A, rfl, hu, hf, sh, hk, go⟩ := S2.nodeW (ys := []) (rs' := rs') p1 rfl
  obtain ⟨us, rfl, e1⟩ := sh
  simp only [O.kids, kidsV, List.map_nil, List.append_nil] at hk
  refine ⟨a1, us, i, j, rfl, rfl, hu, by rw [← e1]; exact e, ?_⟩
  have hj : j < os.length := (ixN_seq e).2.1
  obtain ⟨v0, B, k1, k2, k3⟩ := hk.at (List.getElem?_eq_getElem hj)
  have k := k3 F2 H2 (.s z) v A B (.refl F2) (fun a u ha hf hu => ⟨ha, hf, hu⟩) (by simp only [Own]; exact f2.rep (f1.rep r))
  have q := go (.l (os.set j (.s z))) (.lst (us.set j v)) [] ⟨_, rfl, by simpa using e1⟩ (by simpa [O.kids, kidsV] using k)
  exact hQ _ σ F2 _ hz (f1.trans f2) ⟨q.le, q.vr, RsR.perm (p2 _) q.ow⟩
/-- [] -/
theorem eo_nil {pos : Pos} {Φ : O → Ev → Prop} (h : Φ (.l []) env) : EO c N env (.List [] pos) Φ := eo_lst (ea_nil ⟨Nat.zero_le _, h⟩)
end
end Y
namespace Y
open PySem L2

/-! ### keys -/
def kD : Key → D
  | .inl i => .int i
  | .inr s => .str s
def D.leafKey : D → Option Key
  | .int i => some (.inl i)
  | .str s => some (.inr s)
  | _ => none
def D.leafKeys : List D → Option (List Key)
  | [] => some []
  | z :: zs => match z.leafKey, D.leafKeys zs with
    | some k, some ks => some (k :: ks)
    | _, _ => none
def D.key : D → Option (List Key)
  | .tup zs => D.leafKeys zs
  | _ => none
theorem leafKeys_map : ∀ {zs : List D} {ks : List Key}, D.leafKeys zs = some ks → zs = ks.map kD
  | [], ks, h => by simp only [D.leafKeys] at h; cases h; rfl
  | z :: zs, ks, h => by
    cases h1 : z.leafKey with
    | none => simp [D.leafKeys, h1] at h
    | some k =>
      cases h2 : D.leafKeys zs with
      | none => simp [D.leafKeys, h1, h2] at h
      | some ks' =>
        simp [D.leafKeys, h1, h2] at h
        subst h
        rw [List.map_cons, ← leafKeys_map h2]
        cases z <;> simp [D.leafKey] at h1 <;> subst h1 <;> rfl
theorem leafKeys_of : ∀ ks : List Key, D.leafKeys (ks.map kD) = some ks
  | [] => rfl
  | k :: ks => by
    rw [List.map_cons]
    cases k <;> simp [D.leafKeys, kD, D.leafKey, leafKeys_of ks]
theorem reps_kD {K : PySem.W.Frag} {F : Hp} : ∀ {ks : List Key} {vs : List V}, Reps K F (ks.map kD) vs → vs = ks.map kV
  | [], vs, h => by simp only [List.map_nil, Reps] at h; exact h
  | k :: ks, vs, h => by
    simp only [List.map_cons, Reps] at h
    obtain ⟨v, vs', rfl, h1, h2⟩ := h
    rw [List.map_cons, ← reps_kD h2]
    cases k <;> simp only [kD, Rep] at h1 <;> subst h1 <;> rfl
theorem rep_key {K : PySem.W.Frag} {F : Hp} {y : D} {v : V} {ks : List Key} (h : Rep K F y v) (e : y.key = some ks) : ∃ b, v = .ref b ∧ F b = some (.tup (ks.map kV)) := by
  cases y with
  | tup zs =>
    simp only [D.key] at e
    rw [leafKeys_map e] at h
    simp only [Rep] at h
    obtain ⟨a, vs, rfl, h1, h2⟩ := h
    exact ⟨a, rfl, by rw [h1, reps_kD h2]⟩
  | _ => simp [D.key] at e
theorem rep_keyD {K : PySem.W.Frag} {F : Hp} {b : Addr} {ks : List Key} (h : F b = some (.tup (ks.map kV))) : Rep K F (.tup (ks.map kD)) (.ref b) := by
  simp only [Rep]
  refine ⟨b, _, rfl, h, ?_⟩
  clear h
  induction ks with
  | nil => exact .nil
  | cons k ks ih => exact .cons (by cases k <;> simp only [kD, Rep, kV]) ih

/-! ### places in a dict -/
section
variable {κ α β : Type} [DecidableEq κ]
def dIx (ks : List κ) (k : κ) : Option Nat := ks.findIdx? fun x => decide (x = k)
def dGet (ks : List κ) (xs : List α) (k : κ) : Option α := (dIx ks k).bind fun j => xs[j]?
theorem dIx_get {ks : List κ} {k : κ} {j : Nat} (h : dIx ks k = some j) : ks[j]? = some k := by
  unfold dIx at h
  obtain ⟨h1, h2, _⟩ := List.findIdx?_eq_some_iff_getElem.mp h
  rw [List.getElem?_eq_getElem h1]
  exact congrArg some (by simpa using h2)
theorem dIx_none {ks : List κ} {k : κ} : dIx ks k = none ↔ k ∉ ks := by
  unfold dIx
  rw [List.findIdx?_eq_none_iff]
  constructor
  · intro h m
    simpa using h k m
  · intro h x hx
    simp only [decide_eq_false_iff_not]
    exact fun z => h (z ▸ hx)
theorem dIx_some {ks : List κ} {k : κ} (h : k ∈ ks) : ∃ j, dIx ks k = some j := by
  cases q : dIx ks k with
  | none => exact absurd h (dIx_none.mp q)
  | some j => exact ⟨j, rfl⟩
theorem dIx_isSome {ks : List κ} {k : κ} : (dIx ks k).isSome = decide (k ∈ ks) := by
  by_cases h : k ∈ ks
  · obtain ⟨j, e⟩ := dIx_some h
    rw [e]; simp [h]
  · rw [dIx_none.mpr h]; simp [h]
def hasK (ks : List κ) (k : κ) : Bool := (dIx ks k).isSome
theorem hasK_iff {ks : List κ} {k : κ} : hasK ks k = true ↔ k ∈ ks := by
  unfold hasK
  rw [dIx_isSome]
  exact decide_eq_true_iff
theorem hasK_not {ks : List κ} {k : κ} : hasK ks k = false ↔ k ∉ ks := by
  rw [← hasK_iff]
  cases hasK ks k <;> simp
theorem dIx_cons {a k : κ} {ks : List κ} : dIx (a :: ks) k = if a = k then some 0 else (dIx ks k).map (· + 1) := by
  unfold dIx
  rw [List.findIdx?_cons]
  by_cases h : a = k <;> simp [h]
theorem dGet_nil {xs : List α} {k : κ} : dGet ([] : List κ) xs k = none := rfl
theorem dGet_cons {a k : κ} {ks : List κ} {x : α} {xs : List α} : dGet (a :: ks) (x :: xs) k = if a = k then some x else dGet ks xs k := by
  unfold dGet
  rw [dIx_cons]
  by_cases h : a = k
  · simp [h]
  · rw [if_neg h, if_neg h]
    cases dIx ks k <;> simp
theorem dGet_map (f : α → β) {ks : List κ} {xs : List α} {k : κ} : dGet ks (xs.map f) k = (dGet ks xs k).map f := by
  unfold dGet
  cases dIx ks k with
  | none => rfl
  | some j => simp
theorem valV_zip {kvs : List κ} {vs : List V} {k : κ} (h : kvs.length = vs.length) : valV (kvs.zip vs) k = dGet kvs vs k := by
  induction kvs generalizing vs with
  | nil => rfl
  | cons a ks ih =>
    cases vs with
    | nil => cases h
    | cons v vs =>
      rw [dGet_cons, List.zip_cons_cons]
      by_cases e : a = k
      · rw [if_pos e, valV_pos e]
      · rw [if_neg e, valV_neg e, ih (by simpa using h)]
theorem dGet_none {ks : List κ} {xs : List α} {k : κ} (h : ks.length = xs.length) : dGet ks xs k = none ↔ k ∉ ks := by
  unfold dGet
  cases q : dIx ks k with
  | none => simp [dIx_none.mp q]
  | some j =>
    have e := dIx_get q
    obtain ⟨hj, _⟩ := List.getElem?_eq_some_iff.mp e
    simp only [Option.bind_some, List.getElem?_eq_none_iff]
    constructor
    · intro z; omega
    · intro z; exact absurd (List.mem_of_getElem? e) z
theorem dGet_isSome {ks : List κ} {xs : List α} {k : κ} (h : ks.length = xs.length) : (dGet ks xs k).isSome = hasK ks k := by
  unfold hasK
  rw [dIx_isSome]
  by_cases m : k ∈ ks
  · cases q : dGet ks xs k with
    | none => exact absurd m ((dGet_none h).mp q)
    | some x => simp [m]
  · rw [(dGet_none h).mpr m]; simp [m]
theorem putK_zip {ks : List κ} {vs : List V} {k : κ} {v : V} (h : ks.length = vs.length) (hn : k ∉ ks) : putK (ks.zip vs) k v = (ks ++ [k]).zip (vs ++ [v]) := by
  rw [putK_new v (by rw [valV_zip h]; exact (dGet_none h).mpr hn), List.zip_append h]
  rfl
end

/-! ### what a value is, seen now -/
inductive Seen (env : Ev) : D → D → Prop
  | fr {z : D} : Seen env z z
  | rs {w : V} {t : O} {f : O → Rs} : Res env.rs w t f → Seen env (.raw w) t.fz
theorem St.seen {K : PySem.W.Frag} {b : Hp × Hp} {F H : Hp} {σ : List (Option V)} {env : Ev} (S : St K b F H σ env) {x z : D} {v : V} (r : Rep K F x v) (h : Seen env x z) : Rep K H z v := by
  cases h with
  | fr => exact Rep.mono S.wf.ex _ _ r
  | rs hr =>
    simp only [Rep] at r
    subst r
    exact S.view hr
inductive Seens (env : Ev) : List D → List D → Prop
  | nil : Seens env [] []
  | cons {x z : D} {xs zs : List D} : Seen env x z → Seens env xs zs → Seens env (x :: xs) (z :: zs)
theorem St.seens {K : PySem.W.Frag} {b : Hp × Hp} {F H : Hp} {σ : List (Option V)} {env : Ev} (S : St K b F H σ env) : ∀ {xs zs : List D} {vs : List V}, Reps K F xs vs → Seens env xs zs → Reps K H zs vs
  | [], zs, vs, r, h => by cases h; simpa only [Reps] using r
  | x :: xs, zs, vs, r, h => by
    cases h with
    | cons h1 h2 =>
      simp only [Reps] at r ⊢
      obtain ⟨v, vs', e, r1, r2⟩ := r
      exact ⟨v, vs', e, S.seen r1 h1, S.seens r2 h2⟩
theorem Seens.frs {env : Ev} : ∀ xs : List D, Seens env xs xs
  | [] => .nil
  | _ :: xs => .cons .fr (Seens.frs xs)

section
variable {c : Ctx} {N : List Str} {env : Ev} {Ψ : Post}
theorem dget_of {K : PySem.W.Frag} {F H : Hp} {ks : List (List Key)} {ds : List D} {k : List Key} {v : V} {b : Addr} (wf : Wf F H) (h : Rep K H (.dic ks ds) v) (hb : F b = some (.tup (k.map kV))) :
    ∃ a us, v = .ref a ∧ Reps K H ds us ∧ ks.length = ds.length ∧ DGet H a (.ref b) (dGet ks us k) := by
  simp only [Rep] at h
  obtain ⟨a, us, rfl, h1, h2, h3⟩ := h
  exact ⟨a, us, rfl, h3, h2, .inr ⟨_, k, b, h1, rfl, wf.ex.tp _ _ hb, (valV_zip (h2.trans h3.length)).symm⟩⟩
/-- k in d, k not in d -/
theorem t_in {a d : Expr} {pos : Pos} {Φ : Bool → Ev → Prop} (h : E c N env a fun y env1 => E c N env1 d fun x env2 => ∃ (ks : List (List Key)) (ds : List D) (k : List Key), Seen env2 x (.dic ks ds) ∧ y.key = some k ∧ Φ (hasK ks k) env2) (hm : behindInMarks .In d = false) : T c N env (.Compare a [.In] [d] pos) Φ := by
  intro X hX b F H σ S W tW xl Q hQ
  refine (pt_cmp (pc_din (hu_of hX.room) pe_wp pe_wp) hm).wp ?_
  refine h X hX b F H σ S W tW xl _ fun y env1 vy F1 H1 h1 f1 S1 r1 => ?_
  refine h1 X hX b F1 H1 σ S1 W tW (xl.fe f1) _ fun x env2 vx F2 H2 h2 f2 S2 r2 => ?_
  obtain ⟨ks, ds, k, hs, hk, hp⟩ := h2
  obtain ⟨bb, rfl, hb⟩ := rep_key r1 hk
  obtain ⟨a2, us, rfl, g1, g2, g3⟩ := dget_of S2.wf (S2.seen r2 hs) (f2 _ _ hb)
  refine ⟨a2, _, rfl, g3, _, rfl, ?_⟩
  rw [dGet_isSome (g2.trans g1.length)]
  exact hQ _ env2 F2 H2 hp (f1.trans f2) S2
theorem t_notin {a d : Expr} {pos : Pos} {Φ : Bool → Ev → Prop} (h : E c N env a fun y env1 => E c N env1 d fun x env2 => ∃ (ks : List (List Key)) (ds : List D) (k : List Key), Seen env2 x (.dic ks ds) ∧ y.key = some k ∧ Φ (!hasK ks k) env2) (hm : behindInMarks .NotIn d = false) : T c N env (.Compare a [.NotIn] [d] pos) Φ := by
  intro X hX b F H σ S W tW xl Q hQ
  refine (pt_cmp (pc_dnotin (hu_of hX.room) pe_wp pe_wp) hm).wp ?_
  refine h X hX b F H σ S W tW xl _ fun y env1 vy F1 H1 h1 f1 S1 r1 => ?_
  refine h1 X hX b F1 H1 σ S1 W tW (xl.fe f1) _ fun x env2 vx F2 H2 h2 f2 S2 r2 => ?_
  obtain ⟨ks, ds, k, hs, hk, hp⟩ := h2
  obtain ⟨bb, rfl, hb⟩ := rep_key r1 hk
  obtain ⟨a2, us, rfl, g1, g2, g3⟩ := dget_of S2.wf (S2.seen r2 hs) (f2 _ _ hb)
  refine ⟨a2, _, rfl, g3, _, rfl, ?_⟩
  rw [dGet_isSome (g2.trans g1.length)]
  exact hQ _ env2 F2 H2 hp (f1.trans f2) S2
theorem e_in {a d : Expr} {pos : Pos} {Φ : D → Ev → Prop} (h : E c N env a fun y env1 => E c N env1 d fun x env2 => ∃ (ks : List (List Key)) (ds : List D) (k : List Key), Seen env2 x (.dic ks ds) ∧ y.key = some k ∧ Φ (.bl (hasK ks k)) env2) (hm : behindInMarks .In d = false) : E c N env (.Compare a [.In] [d] pos) Φ := by
  intro X hX b F H σ S W tW xl Q hQ
  refine (pe_cmp (pc_din (hu_of hX.room) pe_wp pe_wp) hm).wp ?_
  refine h X hX b F H σ S W tW xl _ fun y env1 vy F1 H1 h1 f1 S1 r1 => ?_
  refine h1 X hX b F1 H1 σ S1 W tW (xl.fe f1) _ fun x env2 vx F2 H2 h2 f2 S2 r2 => ?_
  obtain ⟨ks, ds, k, hs, hk, hp⟩ := h2
  obtain ⟨bb, rfl, hb⟩ := rep_key r1 hk
  obtain ⟨a2, us, rfl, g1, g2, g3⟩ := dget_of S2.wf (S2.seen r2 hs) (f2 _ _ hb)
  refine ⟨a2, _, rfl, g3, ?_⟩
  rw [dGet_isSome (g2.trans g1.length)]
  exact hQ _ env2 _ F2 H2 hp (f1.trans f2) S2 (by simp only [Rep])
theorem dGet_rep {K : PySem.W.Frag} {F : Hp} {ks : List (List Key)} {ds : List D} {us : List V} {k : List Key} {z : D} (r : Reps K F ds us) (h : dGet ks ds k = some z) : ∃ v, dGet ks us k = some v ∧ Rep K F z v := by
  unfold dGet at h ⊢
  cases q : dIx ks k with
  | none => rw [q] at h; cases h
  | some j =>
    rw [q] at h
    exact r.get h
/-- d[k] of a dict, the value made of what never changes -/
theorem e_dget {d a : Expr} {pos : Pos} {Φ : D → Ev → Prop} (h : E c N env d fun x env1 => E c N env1 a fun y env2 => ∃ (ks : List (List Key)) (ds : List D) (k : List Key) (z : D), Seen env2 x (.dic ks ds) ∧ y.key = some k ∧ dGet ks ds k = some z ∧ z.imm = true ∧ Φ z env2) (hs : NoSl a) : E c N env (.Subscript d a pos) Φ := by
  intro X hX b F H σ S W tW xl Q hQ
  refine (pe_dget (hu_of hX.room) pe_wp pe_wp hs).wp ?_
  refine h X hX b F H σ S W tW xl _ fun x env1 vx F1 H1 h1 f1 S1 r1 => ?_
  refine h1 X hX b F1 H1 σ S1 W tW (xl.fe f1) _ fun y env2 vy F2 H2 h2 f2 S2 r2 => ?_
  obtain ⟨ks, ds, k, z, hs, hk, hz, hi, hp⟩ := h2
  obtain ⟨bb, rfl, hb⟩ := rep_key r2 hk
  obtain ⟨a2, us, rfl, g1, g2, g3⟩ := dget_of S2.wf (S2.seen (f2.rep r1) hs) hb
  obtain ⟨v, e, r⟩ := dGet_rep g1 hz
  rw [e] at g3
  exact ⟨a2, v, rfl, g3, hQ z env2 v F2 H2 hp (f1.trans f2) S2 (Rep.imm S2.wf z v hi r)⟩
/-- d[k] = v, a key that is new -/
theorem s_dput {d a e : Expr} {pos pos' : Pos} (h : EO c N env e fun z env1 => ∀ w0, E c N (env1.add w0 z) d fun x env2 => E c N env2 a fun y env3 => ∃ (w : V) (ks : List (List Key)) (os : List O) (k : List Key) (z' : O) (rs' : Rs) (f : O → Rs), x = .raw w ∧ Tak env3.rs w0 z' rs' ∧ Res rs' w (.d ks os) f ∧ y.key = some k ∧ k ∉ ks ∧ ks.length ≤ 1000000 ∧ Ψ.nx ⟨env3.vs, f (.d (ks ++ [k]) (os ++ [z']))⟩)
    (hs : ∀ env, swapsWith e (some (.Subscript d a pos')) pos.line env = pure false) : S1 c N env (.Assign [.Subscript d a pos'] e pos) Ψ := by
  intro X hX b F H σ S W tW xl D L
  refine (ps_dput (hu_of hX.room) pe_wp pe_wp pe_wp (hs _)).wp ?_
  refine h X hX b F H σ S W tW xl _ fun z env1 v F1 H1 h1 f1 S1 => ?_
  refine h1 v X hX b F1 H1 σ S1 W tW (xl.fe f1) _ fun x env2 vx F2 H2 h2 f2 S2 r2 => ?_
  refine h2 X hX b F2 H2 σ S2 W tW (xl.fe (f1.trans f2)) _ fun y env3 vy F3 H3 h3 f3 S3 r3 => ?_
  obtain ⟨w, ks, os, k, z', rs', f, rfl, ht, hr, hk, hn, hl, hp⟩ := h3
  simp only [Rep] at r2
  subst r2
  obtain ⟨bb, rfl, hb⟩ := rep_key r3 hk
  obtain ⟨rs2, p1, p2⟩ := hr.ok
  obtain ⟨a1, u, A, rfl, hu, hf, sh, hkk, go⟩ := S3.nodeW (ys := [(v, z')]) (t := .d ks os) (ht.perm.trans ((p1.cons _).trans (.swap _ _ _))) rfl
  obtain ⟨us, rfl, e0, e1⟩ := sh
  have e2 := e0.trans e1
  rw [show kidsV (.dT (ks.zip us)) = us from zip_snd e2] at hkk
  refine ⟨a1, _, rfl, .inr ⟨ks.zip us, k, bb, hu, rfl, S3.wf.ex.tp _ _ hb, ?_, rfl⟩, ?_⟩
  · rw [List.length_zip, e2, Nat.min_self]; exact lt_line (by omega)
  rw [putK_zip e2 hn]
  have q := go (.d (ks ++ [k]) (os ++ [z'])) (.dT ((ks ++ [k]).zip (us ++ [v]))) [] ⟨_, rfl, by simp [e0], by simp [e1]⟩ (by
    rw [show kidsV (.dT ((ks ++ [k]).zip (us ++ [v]))) = us ++ [v] from zip_snd (by simp [e2])]
    simpa [O.kids] using hkk)
  exact L.nx _ σ F3 _ hp ((f1.trans f2).trans f3) ⟨q.le, q.vr, RsR.perm (p2 _) q.ow⟩
/-- d.setdefault(k, e): what stands there, or the new one; it becomes a resource of its own -/
theorem e_setd {d a e : Expr} {apos cpos : Pos} {Φ : D → Ev → Prop} (h : E c N env d fun x env1 => ∃ w ks1 os1 f1, x = .raw w ∧ Res env1.rs w (.d ks1 os1) f1 ∧ E c N env1 a fun y env2 => EO c N env2 e fun z env3 => ∃ (ks : List (List Key)) (os : List O) (k : List Key) (f : O → Rs), Res env3.rs w (.d ks os) f ∧ y.key = some k ∧ ks.length ≤ 1000000 ∧
      (∀ j t, dIx ks k = some j → os[j]? = some t → ∀ v, Φ (.raw v) ⟨env3.vs, (v, t) :: f (.d ks (os.set j (.h v)))⟩) ∧ (k ∉ ks → ∀ v, Φ (.raw v) ⟨env3.vs, (v, z) :: f (.d (ks ++ [k]) (os ++ [.h v]))⟩))
    (m : ∀ X : Cx, M2 X d "setdefault" apos a e cpos) : E c N env (.Call (.Attribute d "setdefault" apos) [a, e] [] cpos) Φ := by
  intro X hX b F H σ S W tW xl Q hQ
  refine (Y0.pe_setdT (hu_of hX.room) pe_wp pe_wp pe_wp (m X)).wp ?_
  refine h X hX b F H σ S W tW xl _ fun x env1 vx F1 H1 h1 f1 S1 r1 => ?_
  obtain ⟨w, ks1, os1, g1, rfl, hr1, h2⟩ := h1
  simp only [Rep] at r1
  subst r1
  obtain ⟨a1, us1, e1, hd1, _, _⟩ := S1.dic hr1
  subst e1
  refine ⟨a1, rfl, .inr ⟨_, .inl hd1⟩, ?_⟩
  refine h2 X hX b F1 H1 σ S1 W tW (xl.fe f1) _ fun y env2 vy F2 H2 h3 f2 S2 r2 => ?_
  refine h3 X hX b F2 H2 σ S2 W tW (xl.fe (f1.trans f2)) _ fun z env3 v F3 H3 h4 f3 S3 => ?_
  obtain ⟨ks, os, k, f, hr, hk, hl, hold, hnew⟩ := h4
  have ff := (f1.trans f2).trans f3
  obtain ⟨bb, rfl, hb⟩ := rep_key (f3.rep r2) hk
  obtain ⟨rs', p1, p2⟩ := hr.ok
  obtain ⟨a2, u, A, ea, hu, hf, sh, hkk, go⟩ := S3.nodeW (ys := [(v, z)]) (w := .ref a1) (t := .d ks os) ((p1.cons _).trans (.swap _ _ _)) rfl
  cases ea
  obtain ⟨us, rfl, e0, e1⟩ := sh
  have e2 := e0.trans e1
  rw [show kidsV (.dT (ks.zip us)) = us from zip_snd e2] at hkk
  simp only [O.kids, List.map_cons, List.map_nil] at hkk
  refine ⟨ks.zip us, k, bb, hu, rfl, S3.wf.ex.tp _ _ hb, by rw [List.length_zip, e2, Nat.min_self]; exact lt_line (by omega), fun v0 hv => ?_, fun hv => ?_⟩
  · rw [valV_zip e2] at hv
    unfold dGet at hv
    cases q : dIx ks k with
    | none => rw [q] at hv; cases hv
    | some j =>
      rw [q] at hv
      have hv : us[j]? = some v0 := hv
      obtain ⟨hj, _⟩ := List.getElem?_eq_some_iff.mp hv
      obtain ⟨B, k1, k2⟩ := Owns.spl e1 hkk
      obtain ⟨v1, w1, w2⟩ := k1.hole (List.getElem?_eq_getElem (i := j) (by omega))
      rw [hv] at w1
      cases w1
      have q2 := go (.d ks (os.set j (.h v0))) (.dT (ks.zip us)) [(v0, _)] ⟨us, rfl, by simpa using e0, by simpa using e1⟩ (by
        rw [show kidsV (.dT (ks.zip us)) = us from zip_snd e2]
        exact w2.reg fun x hx => hx.1)
      rw [upd_self hu] at q2
      exact hQ (.raw v0) _ v0 F3 H3 (hold j _ q (List.getElem?_eq_getElem (by omega)) v0) ff ⟨q2.le, q2.vr, RsR.perm ((List.Perm.swap _ _ _).trans ((p2 _).cons _)) q2.ow⟩ (by simp only [Rep])
  · rw [valV_zip e2] at hv
    have hn := (dGet_none e2).mp hv
    rw [putK_zip e2 hn]
    have hh : Owns c.K F3 H3 ((os ++ [.h v]) ++ [z]) ((us ++ [v]) ++ [v]) A := by
      obtain ⟨v1, w1, w2⟩ := hkk.hole (j := os.length) (t := z) (by simp)
      rw [List.getElem?_append_right (by omega), e1] at w1
      simp at w1
      subst w1
      simpa using w2
    have q2 := go (.d (ks ++ [k]) (os ++ [.h v])) (.dT ((ks ++ [k]).zip (us ++ [v]))) [(v, z)] ⟨_, rfl, by simp [e0], by simp [e1]⟩ (by
      rw [show kidsV (.dT ((ks ++ [k]).zip (us ++ [v]))) = us ++ [v] from zip_snd (by simp [e2])]
      exact hh)
    exact hQ (.raw v) _ v F3 _ (hnew hn v) ff ⟨q2.le, q2.vr, RsR.perm ((List.Perm.swap _ _ _).trans ((p2 _).cons _)) q2.ow⟩ (by simp only [Rep])
end
end Y
namespace Y
open PySem L2

/-! ### a part of the resources out of sight -/
section
variable {K : PySem.W.Frag} {b : Hp × Hp} {F H : Hp} {σ : List (Option V)} {vs : List (Option D)} {hs rs : Rs}
/-- THE FRAME: the resources hs are held back; whoever works on with the others leaves them as they are -/
theorem St.hide (S : St K b F H σ ⟨vs, hs ++ rs⟩) : ∃ b2 : Hp, St K (F, b2) F H σ ⟨vs, rs⟩ ∧ (∀ a u, b2 a = some u → H a = some u) ∧
    ∀ (F' H' : Hp) (σ' : List (Option V)) (env' : Ev), St K (F, b2) F' H' σ' env' → St K b F' H' σ' ⟨env'.vs, hs ++ env'.rs⟩ := by
  obtain ⟨B, h1, h2⟩ := S.ow.spl
  have cl : ∀ a, Decidable (b.2 a = none ∧ ¬ B a ∧ F a = none) := fun a => Classical.propDecidable _
  let b2 : Hp := fun a => if b.2 a = none ∧ ¬ B a ∧ F a = none then none else H a
  have e1 : ∀ a, b2 a = none → (b.2 a = none ∧ ¬ B a ∧ F a = none) ∨ H a = none := fun a h => by
    by_cases z : b.2 a = none ∧ ¬ B a ∧ F a = none
    · exact .inl z
    · have : b2 a = H a := if_neg z
      rw [this] at h; exact .inr h
  have e2 : ∀ a u, b2 a = some u → H a = some u := fun a u h => by
    by_cases z : b.2 a = none ∧ ¬ B a ∧ F a = none
    · have : b2 a = none := if_pos z
      rw [this] at h; cases h
    · have : b2 a = H a := if_neg z
      rw [this] at h; exact h
  have e3 : ∀ a, b.2 a = none → ¬ B a → F a = none → b2 a = none := fun a h1 h2 h3 => if_pos ⟨h1, h2, h3⟩
  have back : ∀ a, H a = none → b.2 a = none := fun a h => by
    cases q : b.2 a with
    | none => rfl
    | some u => rw [S.le.ex a u q] at h; cases h
  refine ⟨b2, ⟨⟨fun a u h => h, S.wf, e2, fun a h => .inl h⟩, S.vr, h2.frame (.refl F) fun a u ha hf hu => ⟨e3 a ha.1 ha.2 hf, hf, hu⟩⟩, e2, fun F' H' σ' env' S' => ?_⟩
  have lz : ∀ a u, b.2 a = some u → b2 a = some u := fun a u h => by
    have : b2 a = H a := if_neg fun z => by rw [h] at z; exact nomatch z.1
    rw [this]; exact S.le.ex a u h
  refine ⟨⟨fun a u h => S'.le.ff a u (S.le.ff a u h), S'.wf, fun a u h => S'.le.ex a u (lz a u h), fun a h => ?_⟩, S'.vr, ?_⟩
  · rcases S'.le.nw a h with q | q
    · exact S.le.nw a q
    · rcases e1 a q with z | z
      · exact .inr z.1
      · exact .inr (back a z)
  · refine RsR.app (B := fun a => ¬ b2 a = none) ?_ (S'.ow.reg fun a ha => ⟨?_, fun z => z ha⟩)
    · refine h1.frame (.same S'.le.ff) fun a u ha hf hu => ?_
      have hb : b2 a = some u := by
        have : b2 a = H a := if_neg fun z => z.2.1 ha.2
        rw [this]; exact hu
      refine ⟨⟨ha.1, by rw [hb]; exact fun z => nomatch z⟩, ?_, S'.le.ex a u hb⟩
      cases q : F' a with
      | none => rfl
      | some z =>
        rcases S'.le.nw a (by rw [q]; exact fun z => nomatch z) with g | g
        · exact absurd hf g
        · rw [show (F, b2).2 a = b2 a from rfl, hb] at g; cases g
    · rcases e1 a ha with z | z
      · exact z.1
      · exact back a z
end

/-! ### what a comprehension's target binds -/
mutual
inductive Bd (N : List Str) (nm : List (Str × NameKind)) : Expr → D → List (Nat × D) → Prop
  | name {x : Str} {i : Nat} {k : NameKind} {z : D} {pos : Pos} : N[i]? = some x → Kn nm x k → locK k = true → Bd N nm (.Name x pos) z [(i, z)]
  | tup {es : List Expr} {k : Nat} {pos : Pos} {zs : List D} {l : List (Nat × D)} : Bds N nm es zs l → (∀ env, (assignEach es env).length = es.length) → (∀ env, (assignEach es env).findIdx? (·.1) = none) → Bd N nm (.Tuple es k pos) (.tup zs) l
inductive Bds (N : List Str) (nm : List (Str × NameKind)) : List Expr → List D → List (Nat × D) → Prop
  | nil : Bds N nm [] [] []
  | cons {e : Expr} {es : List Expr} {z : D} {zs : List D} {l l' : List (Nat × D)} : Bd N nm e z l → Bds N nm es zs l' → (∀ env, (assignEach (e :: es) env).map (·.2) = assign e env :: (assignEach es env).map (·.2)) → Bds N nm (e :: es) (z :: zs) (l ++ l')
end
def setsV (σ : L2.St) (l : List (Nat × V)) : L2.St := l.foldl (fun σ p => σ.set p.1 (some p.2)) σ
def setsD (vs : List (Option D)) (l : List (Nat × D)) : List (Option D) := l.foldl (fun σ p => σ.set p.1 (some p.2)) vs
/-- the values to what is bound -/
def BdV (K : PySem.W.Frag) (F : Hp) : List (Nat × D) → List (Nat × V) → Prop
  | [], m => m = []
  | p :: l, m => ∃ v m', m = (p.1, v) :: m' ∧ Rep K F p.2 v ∧ BdV K F l m'
theorem BdV.app {K : PySem.W.Frag} {F : Hp} : ∀ {l l' : List (Nat × D)} {m m' : List (Nat × V)}, BdV K F l m → BdV K F l' m' → BdV K F (l ++ l') (m ++ m')
  | [], l', m, m', h, g => by rw [show m = [] from h]; exact g
  | p :: l, l', m, m', h, g => by
    obtain ⟨v, m1, rfl, h1, h2⟩ := h
    exact ⟨v, m1 ++ m', rfl, h1, h2.app g⟩
theorem BdV.vars {K : PySem.W.Frag} {F : Hp} : ∀ {l : List (Nat × D)} {m : List (Nat × V)} {vs : List (Option D)} {σ : L2.St}, BdV K F l m → VarsR K F vs σ → VarsR K F (setsD vs l) (setsV σ m)
  | [], m, vs, σ, h, g => by rw [show m = [] from h]; exact g
  | p :: l, m, vs, σ, h, g => by
    obtain ⟨v, m1, rfl, h1, h2⟩ := h
    exact h2.vars (g.set h1)
theorem setsV_app {σ : L2.St} {m m' : List (Nat × V)} : setsV σ (m ++ m') = setsV (setsV σ m) m' := List.foldl_append
theorem wipe_set {σ : L2.St} {i : Nat} {x : Option V} : ∀ {vs : List Nat}, i ∈ vs → wipe (σ.set i x) vs = wipe σ vs
  | [], h => by cases h
  | v :: vs, h => by
    unfold wipe
    by_cases e : i ∈ vs
    · rw [wipe_set e]
    · have e2 : i = v := by
        rcases List.mem_cons.mp h with z | z
        · exact z
        · exact absurd z e
      subst e2
      have : wipe (σ.set i x) vs = (wipe σ vs).set i x := by
        clear h
        induction vs with
        | nil => rfl
        | cons w ws ih =>
          unfold wipe
          rw [ih fun z => e (List.mem_cons_of_mem _ z), List.set_comm _ _ (fun z : i = w => e (z ▸ List.mem_cons_self))]
      rw [this, List.set_set]
theorem BdV.wipe {K : PySem.W.Frag} {F : Hp} {ws : List Nat} : ∀ {l : List (Nat × D)} {m : List (Nat × V)} {σ : L2.St}, BdV K F l m → (∀ p ∈ l, p.1 ∈ ws) → L2.wipe (setsV σ m) ws = L2.wipe σ ws
  | [], m, σ, h, g => by rw [show m = [] from h]; rfl
  | p :: l, m, σ, h, g => by
    obtain ⟨v, m1, rfl, h1, h2⟩ := h
    show L2.wipe (setsV (σ.set p.1 (some v)) m1) ws = _
    rw [h2.wipe (fun q hq => g q (List.mem_cons_of_mem _ hq)), wipe_set (g p List.mem_cons_self)]
section
variable {c : Ctx} {N : List Str} {X : Cx} {F H : Hp}
mutual
theorem Bd.run (hX : Good c N X) (wf : Wf F H) : ∀ {tg : Expr} {z : D} {l : List (Nat × D)}, Bd N c.nm tg z l → ∀ v, Rep c.K F z v → ∃ m, BdV c.K F l m ∧ ∀ (σ : L2.St) (Q : L2.St → Hp → Prop), Q (setsV σ m) H → wpG X tg v σ H Q
  | _, z, _, .name (i := i) hi hk hv, v, r => by
    refine ⟨[(i, v)], ⟨v, [], rfl, r, rfl⟩, fun σ Q q => ?_⟩
    exact (pg_name (i := i) (by rw [hX.gN]; exact hX.nd) (by rw [hX.gN]; exact hi) (hX.loc hk hv) (hX.fnx hk hv)).wp q
  | _, _, l, .tup (es := es) (zs := zs) hb h1 h2, v, r => by
    simp only [Rep] at r
    obtain ⟨a, vs, rfl, g1, g2⟩ := r
    obtain ⟨m, hm, go⟩ := Bds.run hX wf hb vs g2
    refine ⟨m, hm, fun σ Q q => ?_⟩
    refine (pg_tup hX.calm pgs_wp (h1 _) (h2 _)).wp ⟨a, vs, rfl, sqt (wf.ex.tp _ _ g1), ?_, go σ Q q⟩
    rw [← g2.length]
    exact Bds.len hb
theorem Bds.run (hX : Good c N X) (wf : Wf F H) : ∀ {es : List Expr} {zs : List D} {l : List (Nat × D)}, Bds N c.nm es zs l → ∀ vs, Reps c.K F zs vs → ∃ m, BdV c.K F l m ∧ ∀ (σ : L2.St) (Q : L2.St → Hp → Prop), Q (setsV σ m) H → wpGs X es vs σ H Q
  | _, _, _, .nil, vs, r => by
    simp only [Reps] at r
    exact ⟨[], rfl, fun σ Q q => pgs_nil.wp ⟨r, q⟩⟩
  | _, _, _, .cons (l := l) (l' := l') h1 h2 hs, vs, r => by
    simp only [Reps] at r
    obtain ⟨v, vs', rfl, r1, r2⟩ := r
    obtain ⟨m1, k1, g1⟩ := Bd.run hX wf h1 v r1
    obtain ⟨m2, k2, g2⟩ := Bds.run hX wf h2 vs' r2
    refine ⟨m1 ++ m2, k1.app k2, fun σ Q q => ?_⟩
    refine (pgs_cons pg_wp pgs_wp (hs _)).wp ⟨v, vs', rfl, g1 σ _ (g2 _ Q ?_)⟩
    rw [← setsV_app]; exact q
theorem Bds.len : ∀ {es : List Expr} {zs : List D} {l : List (Nat × D)}, Bds N nm es zs l → zs.length = es.length
  | _, _, _, .nil => rfl
  | _, _, _, .cons _ h2 _ => by simp [Bds.len h2]
end
end
end Y
namespace Y
open PySem L2

/-! ### a comprehension's block -/
def kindB : NameKind → NameKind → Bool
  | .local, .local => true
  | .cell, .cell => true
  | .free, .free => true
  | .globalExplicit, .globalExplicit => true
  | .globalImplicit, .globalImplicit => true
  | _, _ => false
theorem kindB_iff {a b : NameKind} (h : kindB a b = true) : a = b := by cases a <;> cases b <;> first | rfl | cases h
def blkN (N : List Str) (nm : List (Str × NameKind)) (scope : Scope) (own : List (Str × Nat)) : Bool :=
  (match scope.kind with | .function => true | _ => false) && (scope.names.all fun y => decide (scope.names.lookup y.1 = some y.2)) && (own.all fun p => decide (N[p.2]? = some p.1)) &&
    (scope.names.all fun y => match y.2 with
      | .free => nm.any fun p => decide (p.1 = y.1) && (kindB p.2 .cell || kindB p.2 .free)
      | .local => decide (y.1 ∈ own.map (·.1)) || decide (y.1 ∉ N)
      | .cell => decide (y.1 ∈ own.map (·.1)) || decide (y.1 ∉ N)
      | _ => true) && (scope.names.all fun y => !(y.1 == ("__debug__" : Str)) && !(y.1 == ("__classdict__" : Str)))
def Ctx.blk (c : Ctx) (scope : Scope) : Ctx := { c with nm := scope.names, xc := fun _ _ _ => False }
section
variable {c : Ctx} {N : List Str} {X : Cx} {scope : Scope} {own : List (Str × Nat)}
theorem blk_ok (hX : Good c N X) (h : blkN N c.nm scope own = true) : BlkOk X.N X.env.scope scope own := by
  unfold blkN at h
  simp only [Bool.and_eq_true, List.all_eq_true, decide_eq_true_eq] at h
  obtain ⟨⟨⟨⟨h1, h2⟩, h3⟩, h4⟩, h5⟩ := h
  refine ⟨?_, fun y hy => h2 y hy, fun p hp => by rw [hX.gN]; exact h3 p hp, fun y hy e => ?_, fun y hy e => ?_⟩
  · split at h1
    · assumption
    · cases h1
  · have q := h4 y hy
    simp only [e, List.any_eq_true, Bool.and_eq_true, decide_eq_true_eq, Bool.or_eq_true] at q
    obtain ⟨⟨x, k⟩, hp, rfl, hk⟩ := q
    rcases hk with hk | hk
    · have e' : k = .cell := kindB_iff hk
      subst e'
      rcases hX.kn _ _ hp with z | ⟨z, _⟩
      · exact .inl z
      · cases z
    · have e' : k = .free := kindB_iff hk
      subst e'
      rcases hX.kn _ _ hp with z | ⟨_, z⟩
      · exact .inr z
      · exact .inl z
  · have q := h4 y hy
    rw [hX.gN]
    rcases e with e | e <;> (simp only [e, Bool.or_eq_true, decide_eq_true_eq] at q; exact q)
theorem relS_look {sc : Scope} : ∀ {names : List (Str × NameKind)} {x : Str} {k : NameKind}, names.lookup x = some k → ∃ k', (names.map fun (n, k) => if (k == NameKind.free && sc.kind == .function && sc.names.lookup n == some .cell) then (n, NameKind.cell) else (n, k)).lookup x = some k' ∧ (k' = k ∨ (k = .free ∧ k' = .cell))
  | [], x, k, h => by simp at h
  | (n, k0) :: r, x, k, h => by
    have ih := @relS_look sc r x k
    show ∃ k', List.lookup x ((if (k0 == NameKind.free && sc.kind == .function && sc.names.lookup n == some .cell) = true then (n, NameKind.cell) else (n, k0)) :: (r.map _)) = some k' ∧ _
    rw [List.lookup_cons] at h
    by_cases hc : (k0 == NameKind.free && sc.kind == .function && sc.names.lookup n == some .cell) = true
    · rw [if_pos hc, List.lookup_cons]
      cases hx : x == n with
      | true =>
        rw [hx] at h
        cases h
        simp only [Bool.and_eq_true, beq_iff_eq] at hc
        exact ⟨.cell, rfl, .inr ⟨hc.1.1, rfl⟩⟩
      | false => rw [hx] at h; exact ih h
    · rw [if_neg hc, List.lookup_cons]
      cases hx : x == n with
      | true => rw [hx] at h; exact ⟨k, h, .inl rfl⟩
      | false => rw [hx] at h; exact ih h
theorem good_blk (hX : Good c N X) (h : blkN N c.nm scope own = true) (s : Shared) (H : Hp) (C : Addr) (cl : List (Str × Addr)) (fp : List Addr) : Good (c.blk scope) N (X.blk s H scope (compEnvC scope cl C X.env) fp) := by
  unfold blkN at h
  simp only [Bool.and_eq_true, List.all_eq_true, decide_eq_true_eq, Bool.not_eq_true'] at h
  obtain ⟨⟨⟨⟨h1, h2⟩, h3⟩, h4⟩, h5⟩ := h
  refine ⟨hX.gP, hX.gw, hX.gK, hX.gmg, hX.gbase, hX.gN, fun x k hk => ?_, fun x k hk => h5 _ hk, fun x k hk e => ?_, hX.calm, ?_, hX.room, hX.nd, PassesOwn.never⟩
  · obtain ⟨k', e1, e2⟩ := relS_look (sc := X.env.scope) (h2 _ hk)
    rcases e2 with rfl | ⟨rfl, rfl⟩
    · exact .inl e1
    · exact .inr ⟨rfl, e1⟩
  · rcases e with rfl | rfl
    · obtain ⟨k', e1, e2⟩ := relS_look (sc := X.env.scope) (h2 _ hk)
      rcases e2 with rfl | ⟨z, _⟩
      · exact .inr e1
      · cases z
    · refine .inl ?_
      show (scope.names.lookup x == some NameKind.cell) = true
      rw [h2 _ hk]
      rfl
  · show scope.kind = .function
    split at h1
    · assumption
    · cases h1
end
def wipeV (vs : List (Option D)) : List Nat → List (Option D)
  | [] => vs
  | i :: is => (wipeV vs is).set i none
theorem VarsR.setNone {K : PySem.W.Frag} {F : Hp} : ∀ {vs : List (Option D)} {σ : List (Option V)} {i : Nat}, VarsR K F vs σ → VarsR K F (vs.set i none) (σ.set i none)
  | [], σ, i, h => by rw [show σ = [] from h]; rfl
  | d :: vs, σ, 0, h => by
    obtain ⟨x, σ', rfl, h2, h3⟩ := h
    exact ⟨none, σ', rfl, (fun z e => nomatch e), h3⟩
  | d :: vs, σ, i + 1, h => by
    obtain ⟨x, σ', rfl, h2, h3⟩ := h
    exact ⟨x, σ'.set i none, rfl, h2, h3.setNone⟩
theorem VarsR.wipe {K : PySem.W.Frag} {F : Hp} {vs : List (Option D)} {σ : List (Option V)} (h : VarsR K F vs σ) : ∀ is : List Nat, VarsR K F (wipeV vs is) (L2.wipe σ is)
  | [] => h
  | i :: is => (h.wipe is).setNone
theorem St.vars {K : PySem.W.Frag} {b : Hp × Hp} {F H : Hp} {σ σ' : List (Option V)} {env : Ev} {vs' : List (Option D)} (S : St K b F H σ env) (h : VarsR K F vs' σ') : St K b F H σ' ⟨vs', env.rs⟩ := ⟨S.le, h, S.ow⟩

theorem wipe_out {τ : L2.St} {j : Nat} : ∀ {is : List Nat}, j ∉ is → (L2.wipe τ is)[j]? = τ[j]?
  | [], _ => rfl
  | w :: ws, hn => by
    unfold L2.wipe
    rw [List.getElem?_set_ne (fun z => hn (by rw [← z]; exact List.mem_cons_self)), wipe_out fun z => hn (List.mem_cons_of_mem _ z)]
theorem wipe_in {τ : L2.St} {j : Nat} {is : List Nat} (hj : j ∈ is) : (L2.wipe τ is)[j]? = (τ[j]?).map fun _ => none := by
  have ln := wipe_length τ is
  cases e : (L2.wipe τ is)[j]? with
  | none =>
    have := List.getElem?_eq_none_iff.mp e
    rw [List.getElem?_eq_none (by omega)]; rfl
  | some o =>
    have h2 := (List.getElem?_eq_some_iff.mp e).1
    cases o with
    | some v => exact absurd hj (wipe_some e).2
    | none => rw [List.getElem?_eq_getElem (by omega)]; rfl
theorem wipe_wipe (σ : L2.St) (is : List Nat) : L2.wipe (L2.wipe σ is) is = L2.wipe σ is := by
  apply List.ext_getElem?
  intro j
  by_cases hj : j ∈ is
  · rw [wipe_in hj, wipe_in hj]; cases σ[j]? <;> rfl
  · rw [wipe_out hj]
/-- the tests of a comprehension -/
def wpTs (X : Cx) (ifs : List Expr) : TT := fun σ H Q => ∀ pins s, Inv X pins σ H s → wpAny (model X.prog X.w) X.A (forIn ifs true fun c r => if r = true then do let ok ← isTrue c X.env (eval c X.env); pure (ForInStep.yield ok) else pure (ForInStep.yield r)) (TP X pins σ Q) X.xe s
theorem pts_wp {X : Cx} {ifs : List Expr} : PTs X ifs (wpTs X ifs) := ⟨fun pins s σ H Q I h => h pins s I⟩
theorem _root_.L2.PTs.wp {X : Cx} {e : List Expr} {t : TT} (h : PTs X e t) {σ : L2.St} {H : Hp} {Q : Bool → Hp → Prop} (q : t σ H Q) : wpTs X e σ H Q := fun pins s I => h.run pins s σ H Q I q
def Ts (c : Ctx) (N : List Str) (env : Ev) (e : List Expr) (Φ : Bool → Ev → Prop) : Prop :=
  ∀ X, Good c N X → ∀ b F H σ, St c.K b F H σ env → ∀ W, Takes X W → XL c b F W → ∀ Q : Bool → Hp → Prop,
    (∀ k env' F' H', Φ k env' → FE F F' → St c.K b F' H' σ env' → Q k H') → wpTs X e σ H Q
section
variable {c : Ctx} {N : List Str} {env : Ev}
theorem ts_nil {Φ : Bool → Ev → Prop} (h : Φ true env) : Ts c N env [] Φ :=
  fun X hX b F H σ S W tW xl Q hQ => pts_nil.wp (hQ true env F H h (.refl F) S)
theorem ts_one {e : Expr} {Φ : Bool → Ev → Prop} (h : T c N env e Φ) : Ts c N env [e] Φ :=
  fun X hX b F H σ S W tW xl Q hQ => (pts_one pt_wp).wp (h X hX b F H σ S W tW xl Q hQ)
/-- one turn of a list comprehension, from the resources rs -/
def LcTurn (c : Ctx) (N : List Str) (vs : List (Option D)) (is : List Nat) (tg elt : Expr) (ifs : List Expr) (z : D) (rs : Rs) (no : Rs → Prop) (yes : O → Rs → Prop) : Prop :=
  ∃ l, Bd N c.nm tg z l ∧ (∀ p ∈ l, p.1 ∈ is) ∧ Ts c N ⟨setsD (wipeV vs is) l, rs⟩ ifs fun k env2 => (k = false → no env2.rs) ∧ (k = true → EO c N env2 elt fun y env3 => yes y env3.rs)
abbrev gB (X : Cx) (scope : Scope) (tg : Expr) : TG := fun v σ H Q => ∀ s H0 C cl fp, wpG (X.blk s H0 scope (compEnvC scope cl C X.env) fp) tg v σ H Q
abbrev tB (X : Cx) (scope : Scope) (ifs : List Expr) : TT := fun σ H Q => ∀ s H0 C cl fp, wpTs (X.blk s H0 scope (compEnvC scope cl C X.env) fp) ifs σ H Q
abbrev eB (X : Cx) (scope : Scope) (e : Expr) : TE := fun σ H Q => ∀ s H0 C cl fp, wpE (X.blk s H0 scope (compEnvC scope cl C X.env) fp) e σ H Q
theorem gB_ok {X : Cx} {scope : Scope} {tg : Expr} : ∀ (s : Shared) (H : Hp) (C : Addr) (cl : List (Str × Addr)) (fp : List Addr), PG (X.blk s H scope (compEnvC scope cl C X.env) fp) tg (gB X scope tg) := fun s H C cl fp => ⟨fun pins s' σ' H' v u Q' I' r h' => h' s H C cl fp pins s' u I' r⟩
theorem tB_ok {X : Cx} {scope : Scope} {ifs : List Expr} : ∀ (s : Shared) (H : Hp) (C : Addr) (cl : List (Str × Addr)) (fp : List Addr), PTs (X.blk s H scope (compEnvC scope cl C X.env) fp) ifs (tB X scope ifs) := fun s H C cl fp => ⟨fun pins s' σ' H' Q' I' h' => h' s H C cl fp pins s' I'⟩
theorem eB_ok {X : Cx} {scope : Scope} {e : Expr} : ∀ (s : Shared) (H : Hp) (C : Addr) (cl : List (Str × Addr)) (fp : List Addr), PE (X.blk s H scope (compEnvC scope cl C X.env) fp) e (eB X scope e) := fun s H C cl fp => ⟨fun pins s' σ' H' Q' I' h' => h' s H C cl fp pins s' I'⟩
/-- what is asked of a list comprehension -/
def LcOk (c : Ctx) (N : List Str) (env : Ev) (elt tg iter : Expr) (ifs : List Expr) (scope : Scope) (own : List (Str × Nat)) (Φ : O → Ev → Prop) : Prop :=
  IT c N env tg iter fun zs cond env1 => ∃ I : Nat → List O → Rs → Prop, I 0 [] env1.rs ∧ (∀ k os rs, I k os rs → ∀ w vs, cond ⟨vs, (w, .l os) :: rs⟩) ∧ zs.length ≤ 1000000 ∧
      (∀ k z os rs, zs[k]? = some z → os.length ≤ k → I k os rs → LcTurn (c.blk scope) N env1.vs (own.map (·.2)) tg elt ifs z rs (I (k + 1) os) (fun y rs' => I (k + 1) (os ++ [y]) rs')) ∧ (∀ os rs, os.length ≤ zs.length → I zs.length os rs → Φ (.l os) ⟨env1.vs, rs⟩)
theorem lc_run {elt tg iter : Expr} {ifs : List Expr} {scope : Scope} {own : List (Str × Nat)} {Φ : O → Ev → Prop} (hb : blkN N c.nm scope own = true) (h : LcOk c N env elt tg iter ifs scope own Φ)
    {X : Cx} (hX : Good c N X) {b : Hp × Hp} {F H : Hp} {σ : L2.St} (S : St c.K b F H σ env) {W : WX} (tW : Takes X W) (xl : XL c b F W) {Q : VK} (hQ : ∀ z env' v F' H', Φ z env' → FE F F' → St c.K b F' H' σ (env'.add v z) → Q v H') :
    tLc (wpI X tg iter) (gB X scope tg) (tB X scope ifs) (eB X scope elt) (own.map (·.2)) σ H Q := by
  have gb := good_blk hX hb
  refine h X hX b F H σ S W tW xl _ fun zs cond env1 J F1 H1 h1 f1 S1 Y1 => ?_
  obtain ⟨I, i0, hc, hz, hturn, hd⟩ := h1
  intro D hD
  -- the new list stands in front
  have l0 := Le.newO (o := .lst []) S1.wf True.intro hD
  have S2 : St c.K b F1 (L2.upd H1 D (.lst [])) σ (env1.add (.ref D) (.l [])) := S1.push l0 (by simp only [Own]; exact ⟨D, [], rfl, hD, S1.wf.fresh hD, upd_same, .nil⟩)
  refine ⟨fun i m H' => m = zs.length - i ∧ i ≤ zs.length ∧ ∃ os rs F', I i os rs ∧ os.length ≤ i ∧ FE F1 F' ∧ St c.K b F' H' σ ⟨env1.vs, (.ref D, .l os) :: rs⟩, ⟨zs.length, by simp, Nat.zero_le _, [], env1.rs, F1, i0, Nat.zero_le _, .refl _, S2⟩, ?_⟩
  rintro i m H2 ⟨rfl, hi, os, rs, F2, i2, lo, f2, S2⟩
  have hcond := hc i os rs i2 (.ref D) env1.vs
  by_cases hlt : i < zs.length
  · obtain ⟨z, ez⟩ : ∃ z, zs[i]? = some z := ⟨zs[i], List.getElem?_eq_getElem hlt⟩
    obtain ⟨go, yl⟩ := Y1.item i z ez b F2 H2 σ _ S2 f2 hcond
    refine .inr ⟨go, fun H' => ∃ os rs F', I (i + 1) os rs ∧ os.length ≤ i + 1 ∧ FE F1 F' ∧ St c.K b F' H' σ ⟨env1.vs, (.ref D, .l os) :: rs⟩, fun H' q => ⟨zs.length - (i + 1), by omega, rfl, hlt, q⟩, fun x H' y => ?_⟩
    obtain ⟨F3, l3, r3⟩ := yl x H' y
    have S3 := S2.step l3
    obtain ⟨l, hbd, hsl, hts⟩ := hturn i z os rs ez lo i2
    -- what the target binds
    intro s0 H0 C0 cl0 fp0
    obtain ⟨mv, hm, gom⟩ := Bd.run (F := F3) (H := H') (gb s0 H0 C0 cl0 fp0) S3.wf hbd x r3
    refine gom _ _ ⟨?_, ?_⟩
    · rw [hm.wipe hsl, wipe_wipe]
    · -- the list is held back
      obtain ⟨b2, S4, hb2, back⟩ := St.hide (hs := [(.ref D, .l os)]) (rs := rs) S3
      have S5 : St c.K (F3, b2) F3 H' (setsV (L2.wipe σ (own.map (·.2))) mv) ⟨setsD (wipeV env1.vs (own.map (·.2))) l, rs⟩ := S4.vars (hm.vars (VarsR.wipe S4.vr _))
      have none_xl : ∀ b F W, XL (c.blk scope) b F W := fun b F W cls pay d env' σ' F' H' h => h.elim
      have reset : ∀ F' H' (σ' : List (Option V)) (env' : Ev), FE F3 F' → St c.K (F3, b2) F' H' σ' env' → St c.K b F' H' σ ⟨env1.vs, (.ref D, .l os) :: env'.rs⟩ := fun F' H' σ' env' f S' => (back F' H' σ' env' S').vars (S3.vr.mono f.ex)
      intro s0 H0 C0 cl0 fp0
      refine hts _ (gb s0 H0 C0 cl0 fp0) (F3, b2) F3 H' _ S5 _ takes0 (none_xl _ _ _) _ fun k env6 F6 H6 h6 f6 S6 => ?_
      cases k with
      | false =>
        simp only [Bool.false_eq_true, if_false]
        exact ⟨os, env6.rs, F6, h6.1 rfl, Nat.le_succ_of_le lo, (f2.trans l3.ff).trans f6, reset F6 H6 _ env6 f6 S6⟩
      | true =>
        simp only [if_true]
        intro s0 H0 C0 cl0 fp0
        refine h6.2 rfl _ (gb s0 H0 C0 cl0 fp0) (F3, b2) F6 H6 _ S6 _ takes0 (none_xl _ _ _) _ fun y env7 v F7 H7 h7 f7 S7 => ?_
        have S8 := reset F7 H7 _ _ (f6.trans f7) S7
        obtain ⟨a2, u, A, e2, hu, hf, sh, hk, goo⟩ := S8.nodeW (ys := [(v, y)]) (t := .l os) (w := .ref D) (rs' := env7.rs) (.refl _) rfl
        cases e2
        obtain ⟨us, rfl, e1⟩ := sh
        refine ⟨us, hu, lt_line (by omega), os ++ [y], env7.rs, F7, h7, by simp; omega, ((f2.trans l3.ff).trans f6).trans f7, ?_⟩
        exact goo (.l (os ++ [y])) (.lst (us ++ [v])) [] ⟨_, rfl, by simp [e1]⟩ (by simpa [O.kids, kidsV] using hk)
  · have e : i = zs.length := by omega
    subst e
    exact .inl ⟨Y1.done b F2 H2 σ _ S2 f2 hcond, hQ (.l os) ⟨env1.vs, rs⟩ (.ref D) F2 H2 (hd os rs lo i2) (f1.trans f2) S2⟩
theorem eo_lc {elt tg iter : Expr} {ifs : List Expr} {scope : Scope} {pos : Pos} {Φ : O → Ev → Prop} (own : List (Str × Nat)) (hb : blkN N c.nm scope own = true) (h : LcOk c N env elt tg iter ifs scope own Φ)
    (hs : ∀ env x, foldedSetIterable iter env x = pure x) : EO c N env (.ListComp elt [⟨tg, iter, ifs, 0⟩] scope pos) Φ :=
  fun X hX b F H σ S W tW xl Q hQ => (pe_lc hX.calm (by rw [hX.gN]; exact hX.nd) pi_wp (blk_ok hX hb) gB_ok tB_ok eB_ok (hs _)).wp (lc_run hb h hX S tW xl hQ)
/-- name = [.. for ..] on one line, the name a local -/
theorem s_newLc {y : Str} {i : Nat} {py spos : Pos} {elt tg iter : Expr} {ifs : List Expr} {scope : Scope} {pos : Pos} {Ψ : Post} (own : List (Str × Nat)) (hb : blkN N c.nm scope own = true)
    (h : LcOk c N env elt tg iter ifs scope own fun z env1 => ∀ w, ∃ f, Put N env1.vs y i f ∧ Ψ.nx ⟨f (.raw w), (w, z) :: env1.rs⟩) (hk : Kn c.nm y .local) (hi : Ix N y i)
    (hs : ∀ env x, foldedSetIterable iter env x = pure x) (hl : (py.line == pos.line) = true) (ha : (scope.names.any fun (n, k) => n == y && (k == .local || k == .cell)) = false) :
    S1 c N env (.Assign [.Name y py] (.ListComp elt [⟨tg, iter, ifs, 0⟩] scope pos) spos) Ψ := by
  intro X hX b F H σ S W tW xl D L
  have ly : X.env.scope.names.lookup y = some .local := by
    rcases hX.kn y _ hk.mem with e | ⟨e, _⟩
    · exact e
    · cases e
  refine (ps_setLc hX.calm (by rw [hX.gN]; exact hX.nd) (by rw [hX.gN]; exact hi.ok) ly (sw_true hX.kd ly hl ha) pi_wp (blk_ok hX hb) gB_ok tB_ok eB_ok (hs _)).wp ?_
  refine lc_run hb h hX S tW xl fun z env' v F' H' hp f S' => ?_
  obtain ⟨f0, hput, hn⟩ := hp v
  exact L.nx _ _ F' H' hn f (S'.put (z := .raw v) hput (by simp only [Rep]))
/-- .. whose list stands still from then on -/
theorem s_setLc {y : Str} {i : Nat} {py spos : Pos} {elt tg iter : Expr} {ifs : List Expr} {scope : Scope} {pos : Pos} {Ψ : Post} (own : List (Str × Nat)) (hb : blkN N c.nm scope own = true)
    (h : LcOk c N env elt tg iter ifs scope own fun z env1 => ∃ f, Put N env1.vs y i f ∧ Ψ.nx ⟨f z.fz, env1.rs⟩) (hk : Kn c.nm y .local) (hi : Ix N y i)
    (hs : ∀ env x, foldedSetIterable iter env x = pure x) (hl : (py.line == pos.line) = true) (ha : (scope.names.any fun (n, k) => n == y && (k == .local || k == .cell)) = false) :
    S1 c N env (.Assign [.Name y py] (.ListComp elt [⟨tg, iter, ifs, 0⟩] scope pos) spos) Ψ := by
  intro X hX b F H σ S W tW xl D L
  have ly : X.env.scope.names.lookup y = some .local := by
    rcases hX.kn y _ hk.mem with e | ⟨e, _⟩
    · exact e
    · cases e
  refine (ps_setLc hX.calm (by rw [hX.gN]; exact hX.nd) (by rw [hX.gN]; exact hi.ok) ly (sw_true hX.kd ly hl ha) pi_wp (blk_ok hX hb) gB_ok tB_ok eB_ok (hs _)).wp ?_
  refine lc_run hb h hX S tW xl fun z env' v F' H' hp f S' => ?_
  obtain ⟨f0, hput, hn⟩ := hp
  obtain ⟨F2, f2, S2, r2⟩ := S'.freeze
  exact L.nx _ _ F2 H' hn (f.trans f2) (S2.put hput r2)
/-- one turn of a dict comprehension -/
def DcTurn (c : Ctx) (N : List Str) (vs : List (Option D)) (is : List Nat) (tg kx vx : Expr) (ifs : List Expr) (z : D) (rs : Rs) (no : Rs → Prop) (yes : List Key → O → Rs → Prop) : Prop :=
  ∃ l, Bd N c.nm tg z l ∧ (∀ p ∈ l, p.1 ∈ is) ∧ Ts c N ⟨setsD (wipeV vs is) l, rs⟩ ifs fun k env2 => (k = false → no env2.rs) ∧ (k = true → E c N env2 kx fun y env3 => EO c N env3 vx fun t env4 => ∃ kk, y.key = some kk ∧ yes kk t env4.rs)
def DcOk (c : Ctx) (N : List Str) (env : Ev) (kx vx tg iter : Expr) (ifs : List Expr) (scope : Scope) (own : List (Str × Nat)) (Φ : O → Ev → Prop) : Prop :=
  IT c N env tg iter fun zs cond env1 => ∃ I : Nat → List (List Key) → List O → Rs → Prop, I 0 [] [] env1.rs ∧ (∀ k ks os rs, I k ks os rs → ∀ w vs, cond ⟨vs, (w, .d ks os) :: rs⟩) ∧ zs.length ≤ 1000000 ∧
      (∀ k z ks os rs, zs[k]? = some z → ks.length = os.length → os.length ≤ k → I k ks os rs → DcTurn (c.blk scope) N env1.vs (own.map (·.2)) tg kx vx ifs z rs (I (k + 1) ks os) (fun kk y rs' => kk ∉ ks ∧ I (k + 1) (ks ++ [kk]) (os ++ [y]) rs')) ∧
      (∀ ks os rs, ks.length = os.length → os.length ≤ zs.length → I zs.length ks os rs → Φ (.d ks os) ⟨env1.vs, rs⟩)
theorem dc_run {kx vx tg iter : Expr} {ifs : List Expr} {scope : Scope} {own : List (Str × Nat)} {Φ : O → Ev → Prop} (hb : blkN N c.nm scope own = true) (h : DcOk c N env kx vx tg iter ifs scope own Φ)
    {X : Cx} (hX : Good c N X) {b : Hp × Hp} {F H : Hp} {σ : L2.St} (S : St c.K b F H σ env) {W : WX} (tW : Takes X W) (xl : XL c b F W) {Q : VK} (hQ : ∀ z env' v F' H', Φ z env' → FE F F' → St c.K b F' H' σ (env'.add v z) → Q v H') :
    Y0.tDcT (wpI X tg iter) (gB X scope tg) (tB X scope ifs) (eB X scope kx) (eB X scope vx) (own.map (·.2)) σ H Q := by
  have gb := good_blk hX hb
  refine h X hX b F H σ S W tW xl _ fun zs cond env1 J F1 H1 h1 f1 S1 Y1 => ?_
  obtain ⟨I, i0, hc, hz, hturn, hd⟩ := h1
  intro D hD
  have l0 := Le.newO (o := .dT []) S1.wf True.intro hD
  have S2 : St c.K b F1 (L2.upd H1 D (.dT [])) σ (env1.add (.ref D) (.d [] [])) := S1.push l0 (by simp only [Own]; exact ⟨D, [], rfl, hD, S1.wf.fresh hD, upd_same, rfl, .nil⟩)
  refine ⟨fun i m H' => m = zs.length - i ∧ i ≤ zs.length ∧ ∃ ks os rs F', I i ks os rs ∧ ks.length = os.length ∧ os.length ≤ i ∧ FE F1 F' ∧ St c.K b F' H' σ ⟨env1.vs, (.ref D, .d ks os) :: rs⟩, ⟨zs.length, by simp, Nat.zero_le _, [], [], env1.rs, F1, i0, rfl, Nat.zero_le _, .refl _, S2⟩, ?_⟩
  rintro i m H2 ⟨rfl, hi, ks, os, rs, F2, i2, lk, lo, f2, S2⟩
  have hcond := hc i ks os rs i2 (.ref D) env1.vs
  by_cases hlt : i < zs.length
  · obtain ⟨z, ez⟩ : ∃ z, zs[i]? = some z := ⟨zs[i], List.getElem?_eq_getElem hlt⟩
    obtain ⟨go, yl⟩ := Y1.item i z ez b F2 H2 σ _ S2 f2 hcond
    refine .inr ⟨go, fun H' => ∃ ks os rs F', I (i + 1) ks os rs ∧ ks.length = os.length ∧ os.length ≤ i + 1 ∧ FE F1 F' ∧ St c.K b F' H' σ ⟨env1.vs, (.ref D, .d ks os) :: rs⟩, fun H' q => ⟨zs.length - (i + 1), by omega, rfl, hlt, q⟩, fun x H' y => ?_⟩
    obtain ⟨F3, l3, r3⟩ := yl x H' y
    have S3 := S2.step l3
    obtain ⟨l, hbd, hsl, hts⟩ := hturn i z ks os rs ez lk lo i2
    intro s0 H0 C0 cl0 fp0
    obtain ⟨mv, hm, gom⟩ := Bd.run (F := F3) (H := H') (gb s0 H0 C0 cl0 fp0) S3.wf hbd x r3
    refine gom _ _ ⟨by rw [hm.wipe hsl, wipe_wipe], ?_⟩
    obtain ⟨b2, S4, hb2, back⟩ := St.hide (hs := [(.ref D, .d ks os)]) (rs := rs) S3
    have S5 : St c.K (F3, b2) F3 H' (setsV (L2.wipe σ (own.map (·.2))) mv) ⟨setsD (wipeV env1.vs (own.map (·.2))) l, rs⟩ := S4.vars (hm.vars (VarsR.wipe S4.vr _))
    have none_xl : ∀ b F W, XL (c.blk scope) b F W := fun b F W cls pay d env' σ' F' H' h => h.elim
    have reset : ∀ F' H' (σ' : List (Option V)) (env' : Ev), FE F3 F' → St c.K (F3, b2) F' H' σ' env' → St c.K b F' H' σ ⟨env1.vs, (.ref D, .d ks os) :: env'.rs⟩ := fun F' H' σ' env' f S' => (back F' H' σ' env' S').vars (S3.vr.mono f.ex)
    intro s0 H0 C0 cl0 fp0
    refine hts _ (gb s0 H0 C0 cl0 fp0) (F3, b2) F3 H' _ S5 _ takes0 (none_xl _ _ _) _ fun k env6 F6 H6 h6 f6 S6 => ?_
    cases k with
    | false =>
      simp only [Bool.false_eq_true, if_false]
      exact ⟨ks, os, env6.rs, F6, h6.1 rfl, lk, Nat.le_succ_of_le lo, (f2.trans l3.ff).trans f6, reset F6 H6 _ env6 f6 S6⟩
    | true =>
      simp only [if_true]
      intro s0 H0 C0 cl0 fp0
      refine h6.2 rfl _ (gb s0 H0 C0 cl0 fp0) (F3, b2) F6 H6 _ S6 _ takes0 (none_xl _ _ _) _ fun y env7 vy F7 H7 h7 f7 S7 r7 => ?_
      intro s0 H0 C0 cl0 fp0
      refine h7 _ (gb s0 H0 C0 cl0 fp0) (F3, b2) F7 H7 _ S7 _ takes0 (none_xl _ _ _) _ fun t env8 v F8 H8 h8 f8 S8 => ?_
      obtain ⟨kk, hkk, hnew, hI⟩ := h8
      obtain ⟨bb, rfl, hbb⟩ := rep_key (f8.rep r7) hkk
      have S9 := reset F8 H8 _ _ ((f6.trans f7).trans f8) S8
      obtain ⟨a2, u, A, e2, hu, hf, sh, hk, goo⟩ := S9.nodeW (ys := [(v, t)]) (t := .d ks os) (w := .ref D) (rs' := env8.rs) (.refl _) rfl
      cases e2
      obtain ⟨us, rfl, e0, e1⟩ := sh
      have e2 := e0.trans e1
      rw [show kidsV (.dT (ks.zip us)) = us from zip_snd e2] at hk
      refine ⟨ks.zip us, kk, bb, rfl, S9.wf.ex.tp _ _ hbb, hu, by rw [List.length_zip, e2, Nat.min_self]; exact lt_line (by omega), ks ++ [kk], os ++ [t], env8.rs, F8, hI, by simp [lk], by simp; omega, (((f2.trans l3.ff).trans f6).trans f7).trans f8, ?_⟩
      rw [putK_zip e2 hnew]
      exact goo (.d (ks ++ [kk]) (os ++ [t])) (.dT ((ks ++ [kk]).zip (us ++ [v]))) [] ⟨_, rfl, by simp [e0], by simp [e1]⟩ (by
        rw [show kidsV (.dT ((ks ++ [kk]).zip (us ++ [v]))) = us ++ [v] from zip_snd (by simp [e2])]
        simpa [O.kids] using hk)
  · have e : i = zs.length := by omega
    subst e
    exact .inl ⟨Y1.done b F2 H2 σ _ S2 f2 hcond, hQ (.d ks os) ⟨env1.vs, rs⟩ (.ref D) F2 H2 (hd ks os rs lk lo i2) (f1.trans f2) S2⟩
theorem eo_dc {kx vx tg iter : Expr} {ifs : List Expr} {scope : Scope} {pos : Pos} {Φ : O → Ev → Prop} (own : List (Str × Nat)) (hb : blkN N c.nm scope own = true) (h : DcOk c N env kx vx tg iter ifs scope own Φ)
    (hs : ∀ env x, foldedSetIterable iter env x = pure x) : EO c N env (.DictComp kx vx [⟨tg, iter, ifs, 0⟩] scope pos) Φ :=
  fun X hX b F H σ S W tW xl Q hQ => (Y0.pe_dcT (by have := hu_of hX.room; omega) hX.calm (by rw [hX.gN]; exact hX.nd) pi_wp (blk_ok hX hb) gB_ok tB_ok eB_ok eB_ok (hs _)).wp (dc_run hb h hX S tW xl hQ)
theorem s_newDc {y : Str} {i : Nat} {py spos : Pos} {kx vx tg iter : Expr} {ifs : List Expr} {scope : Scope} {pos : Pos} {Ψ : Post} (own : List (Str × Nat)) (hb : blkN N c.nm scope own = true)
    (h : DcOk c N env kx vx tg iter ifs scope own fun z env1 => ∀ w, ∃ f, Put N env1.vs y i f ∧ Ψ.nx ⟨f (.raw w), (w, z) :: env1.rs⟩) (hk : Kn c.nm y .local) (hi : Ix N y i)
    (hs : ∀ env x, foldedSetIterable iter env x = pure x) (hl : (py.line == pos.line) = true) (ha : (scope.names.any fun (n, k) => n == y && (k == .local || k == .cell)) = false) :
    S1 c N env (.Assign [.Name y py] (.DictComp kx vx [⟨tg, iter, ifs, 0⟩] scope pos) spos) Ψ := by
  intro X hX b F H σ S W tW xl D L
  have ly : X.env.scope.names.lookup y = some .local := by
    rcases hX.kn y _ hk.mem with e | ⟨e, _⟩
    · exact e
    · cases e
  refine (Y0.ps_setDcT (by have := hu_of hX.room; omega) hX.calm (by rw [hX.gN]; exact hX.nd) pi_wp (blk_ok hX hb) gB_ok tB_ok eB_ok eB_ok (hs _) (by rw [hX.gN]; exact hi.ok) ly (Y0.sw_trueD hX.kd ly hl ha)).wp ?_
  refine dc_run hb h hX S tW xl fun z env' v F' H' hp f S' => ?_
  obtain ⟨f0, hput, hn⟩ := hp v
  exact L.nx _ _ F' H' hn f (S'.put (z := .raw v) hput (by simp only [Rep]))
end
end Y
namespace Y
open PySem L2

/-! ### what else is walked -/
section
variable {c : Ctx} {N : List Str} {env : Ev} {Φ : List D → (Ev → Prop) → Ev → Prop} {elts : List Expr} {kk : Nat} {tpos : Pos}
def enumD (zs : List D) : List D := zs.zipIdx.map fun p => .tup [.int (p.2 : Nat), p.1]
theorem enumD_get {zs : List D} {i : Nat} {u : D} (h : (enumD zs)[i]? = some u) : ∃ z, zs[i]? = some z ∧ u = .tup [.int (i : Nat), z] := by
  unfold enumD at h
  rw [List.getElem?_map, List.getElem?_zipIdx] at h
  cases q : zs[i]? with
  | none => rw [q] at h; cases h
  | some z =>
    rw [q] at h
    simp only [Option.map_some, Option.some.injEq, Nat.zero_add] at h
    exact ⟨z, rfl, h.symm⟩
theorem enumD_length (zs : List D) : (enumD zs).length = zs.length := by simp [enumD]
theorem rep_pair {K : PySem.W.Frag} {F H : Hp} {T : Addr} {x y : D} {vx vy : V} (wf : Wf F H) (hT : H T = none) (rx : Rep K F x vx) (ry : Rep K F y vy) : Le F H (L2.upd F T (.tup [vx, vy])) (L2.upd H T (.tup [vx, vy])) ∧ Rep K (L2.upd F T (.tup [vx, vy])) (.tup [x, y]) (.ref T) := by
  have l := Le.new (o := .tup [vx, vy]) wf hT
  refine ⟨l, ?_⟩
  simp only [Rep]
  exact ⟨T, _, rfl, upd_same, .cons (Rep.mono l.exR _ _ rx) (.one (Rep.mono l.exR _ _ ry))⟩
theorem it_enum {e : Expr} {p pos : Pos} (hm : c.g.mg "enumerate" = none) (hk : Kn c.nm "enumerate" .globalImplicit) (h : E c N env e fun z env1 => ∃ zs, z = .tup zs ∧ Φ (enumD zs) (fun _ => True) env1) (hs : ∀ env, starEach [e] env = [(false, eval e env)]) : IT c N env (.Tuple elts kk tpos) (.Call (.Name "enumerate" p) [e] [] pos) Φ := by
  intro X hX b F H σ S W tW xl Rr hR
  refine (Y0.pi_enumT (hX.gl hk) (by rw [hX.gmg]; exact hm) (pa_cons pe_wp pa_nil (hs _)) (hs _)).wp ?_
  refine h X hX b F H σ S W tW xl _ fun z env1 v F1 H1 h1 f1 S1 r1 => ?_
  obtain ⟨zs, rfl, hz⟩ := h1
  simp only [Rep] at r1
  obtain ⟨a, vs, rfl, g1, g2⟩ := r1
  refine ⟨a, vs, rfl, sqt (S1.wf.ex.tp _ _ g1), hR _ _ env1 _ F1 H1 hz f1 S1 ⟨fun i u eu b F H σ env S f _ => ?_, fun b F H σ env S f _ => ?_⟩⟩
  · obtain ⟨z, ez, rfl⟩ := enumD_get eu
    obtain ⟨v, e1, r⟩ := g2.get ez
    have sq : SqT X.K H a vs := sqt (S.wf.ex.tp _ _ (f _ _ g1))
    refine ⟨⟨vs, v, sq, e1⟩, fun x H' y => ?_⟩
    obtain ⟨T, x', rfl, hT, rfl, y⟩ := y
    have := y vs sq
    rw [e1] at this
    cases this
    obtain ⟨l, r'⟩ := rep_pair (x := .int (i : Nat)) (vx := .int (i : Nat)) S.wf hT (by simp only [Rep]) (f.rep r)
    exact ⟨_, l, r'⟩
  · exact ⟨vs, sqt (S.wf.ex.tp _ _ (f _ _ g1)), by rw [enumD_length, g2.length]⟩
def zipD (xs ys : List D) : List D := (xs.zip ys).map fun p => .tup [p.1, p.2]
theorem zipD_get {xs ys : List D} {i : Nat} {u : D} (h : (zipD xs ys)[i]? = some u) : ∃ x y, xs[i]? = some x ∧ ys[i]? = some y ∧ u = .tup [x, y] := by
  unfold zipD at h
  rw [List.getElem?_map] at h
  obtain ⟨⟨x, y⟩, e, rfl⟩ := Option.map_eq_some_iff.mp h
  rw [List.getElem?_zip_eq_some] at e
  exact ⟨x, y, e.1, e.2, rfl⟩
theorem zipD_length (xs ys : List D) : (zipD xs ys).length = min xs.length ys.length := by simp [zipD]
theorem it_zip {e e2 : Expr} {p pos : Pos} (hm : c.g.mg "zip" = none) (hk : Kn c.nm "zip" .globalImplicit) (h : EA c N env [e, e2] fun z env1 => ∃ xs ys, (z = [.tup xs, .tup ys] ∨ z = [.lst xs, .lst ys]) ∧ Φ (zipD xs ys) (fun _ => True) env1)
    (hs : ∀ env, starEach [e, e2] env = (false, eval e env) :: starEach [e2] env) (hpl : ∀ env, (backTo pos (starEach [e2] env)).any (·.1) = false) : IT c N env (.Tuple elts kk tpos) (.Call (.Name "zip" p) [e, e2] [] pos) Φ := by
  intro X hX b F H σ S W tW xl Rr hR
  refine (RZ.pi_zipA (hX.gl hk) (by rw [hX.gmg]; exact hm) pa_wp (hs _) (hpl _)).wp ?_
  refine h X hX b F H σ S W tW xl _ fun z env1 vs F1 H1 h1 f1 S1 r1 => ?_
  obtain ⟨xs, ys, hz, hp⟩ := h1
  rcases hz with rfl | rfl
  · simp only [Reps, Rep] at r1
    obtain ⟨_, _, rfl, ⟨a, us, rfl, g1, g2⟩, _, _, rfl, ⟨a', us', rfl, g3, g4⟩, rfl⟩ := r1
    refine ⟨a, a', us, us', rfl, .inr ⟨sqt (S1.wf.ex.tp _ _ g1), sqt (S1.wf.ex.tp _ _ g3), hR _ _ env1 _ F1 H1 hp f1 S1 ⟨fun i u eu b F H σ env S f _ => ?_, fun b F H σ env S f _ => ?_⟩⟩⟩
    · obtain ⟨x, y, ex, ey, rfl⟩ := zipD_get eu
      obtain ⟨v, e1, r⟩ := g2.get ex
      obtain ⟨v', e1', r'⟩ := g4.get ey
      have sq : SqT X.K H a us := sqt (S.wf.ex.tp _ _ (f _ _ g1))
      have sq' : SqT X.K H a' us' := sqt (S.wf.ex.tp _ _ (f _ _ g3))
      refine ⟨⟨us, us', v, v', sq, sq', e1, e1'⟩, fun x H' y => ?_⟩
      obtain ⟨T, x', y', rfl, hT, rfl, y1, y2⟩ := y
      have q1 := y1 us sq
      have q2 := y2 us' sq'
      rw [e1] at q1
      rw [e1'] at q2
      cases q1
      cases q2
      obtain ⟨l, r'⟩ := rep_pair S.wf hT (f.rep r) (f.rep r')
      exact ⟨_, l, r'⟩
    · refine ⟨us, us', sqt (S.wf.ex.tp _ _ (f _ _ g1)), sqt (S.wf.ex.tp _ _ (f _ _ g3)), ?_⟩
      rw [zipD_length, ← g2.length, ← g4.length]
      omega
  · simp only [Reps, Rep] at r1
    obtain ⟨_, _, rfl, ⟨a, us, rfl, g1, g2⟩, _, _, rfl, ⟨a', us', rfl, g3, g4⟩, rfl⟩ := r1
    have eK := hX.gK
    have sqK : ∀ {H : Hp} {a : Addr} {us : List V}, SqL c.K H a us → SqL X.K H a us := fun {H a us} h => by rw [eK]; exact h
    refine ⟨a, a', us, us', rfl, .inl ⟨sqK (S1.wf.ex.sqL g1), sqK (S1.wf.ex.sqL g3), hR _ _ env1 _ F1 H1 hp f1 S1 ⟨fun i u eu b F H σ env S f _ => ?_, fun b F H σ env S f _ => ?_⟩⟩⟩
    · obtain ⟨x, y, ex, ey, rfl⟩ := zipD_get eu
      obtain ⟨v, e1, r⟩ := g2.get ex
      obtain ⟨v', e1', r'⟩ := g4.get ey
      have sq : SqL X.K H a us := sqK (S.wf.ex.sqL (f.ex.sqL g1))
      have sq' : SqL X.K H a' us' := sqK (S.wf.ex.sqL (f.ex.sqL g3))
      refine ⟨⟨us, us', v, v', sq, sq', e1, e1'⟩, fun x H' y => ?_⟩
      obtain ⟨T, x', y', rfl, hT, rfl, y1, y2⟩ := y
      have q1 := y1 us sq
      have q2 := y2 us' sq'
      rw [e1] at q1
      rw [e1'] at q2
      cases q1
      cases q2
      obtain ⟨l, r'⟩ := rep_pair S.wf hT (f.rep r) (f.rep r')
      exact ⟨_, l, r'⟩
    · refine ⟨us, us', sqK (S.wf.ex.sqL (f.ex.sqL g1)), sqK (S.wf.ex.sqL (f.ex.sqL g3)), ?_⟩
      rw [zipD_length, ← g2.length, ← g4.length]
      omega
/-- the keys of a dict that is locked meanwhile -/
def keysD (ks : List (List Key)) : List D := ks.map fun k => .tup (k.map kD)
theorem it_keys {tg e : Expr} (h : E c N env e fun z env1 => ∃ w ob us ks os f, z = .raw w ∧ Res env1.rs w (.kd ob us ks os) f ∧ Φ (keysD ks) (fun env2 => ∃ os f, Res env2.rs w (.kd ob us ks os) f) env1) : IT c N env tg e Φ := by
  intro X hX b F H σ S W tW xl Rr hR
  refine (pi_keys pe_wp).wp ?_
  refine h X hX b F H σ S W tW xl _ fun z env1 v F1 H1 h1 f1 S1 r1 => ?_
  obtain ⟨w, ob, us, ks, os, f, rfl, hr, hz⟩ := h1
  simp only [Rep] at r1
  have r1 : w = v := r1.symm
  subst r1
  have lk : ∀ {b : Hp × Hp} {F H : Hp} {σ : List (Option V)} {env : Ev} {os : List O} {f : O → Rs}, St c.K b F H σ env → Res env.rs w (.kd ob us ks os) f → ∃ a, w = .ref a ∧ H a = some (.frz ob (.dT (ks.zip us))) ∧ ks.length = us.length := fun S hr => by
    obtain ⟨B, g, _⟩ := S.res hr
    simp only [Own] at g
    obtain ⟨a, h1, h2, h3, h4, h6, h5⟩ := g
    exact ⟨a, h1, h4, h6.trans h5.length⟩
  obtain ⟨a, rfl, ha, hl⟩ := lk S1 hr
  refine ⟨a, ob, rfl, .inr ⟨_, ha, hR _ _ env1 _ F1 H1 hz f1 S1 ⟨fun i u eu b F H σ env S ff hc => ?_, fun b F H σ env S ff hc => ?_⟩⟩⟩
  · obtain ⟨os', f', hr'⟩ := hc
    obtain ⟨a', e', ha', _⟩ := lk S hr'
    cases e'
    unfold keysD at eu
    rw [List.getElem?_map] at eu
    obtain ⟨k, hk, rfl⟩ := Option.map_eq_some_iff.mp eu
    obtain ⟨hi, _⟩ := List.getElem?_eq_some_iff.mp hk
    refine ⟨⟨ha', by rw [List.length_zip, ← hl, Nat.min_self]; exact hi⟩, fun x H' y => ?_⟩
    obtain ⟨rfl, k', v', q, e1, rfl, e3⟩ := y
    rw [List.getElem?_zip_eq_some] at e1
    rw [hk] at e1
    cases e1.1
    exact ⟨F, .refl S.wf, rep_keyD (S.wf.tp _ _ e3)⟩
  · obtain ⟨os', f', hr'⟩ := hc
    obtain ⟨a', e', ha', _⟩ := lk S hr'
    cases e'
    exact ⟨ha', by rw [List.length_zip, ← hl, Nat.min_self]; simp [keysD]⟩
end

/-! ### a dict locked for a walk -/
section
variable {K : PySem.W.Frag} {b : Hp × Hp} {F H : Hp} {σ : List (Option V)} {env : Ev} {w : V} {ks : List (List Key)} {os : List O} {f : O → Rs}
theorem St.lock (S : St K b F H σ env) (h : Res env.rs w (.d ks os) f) : ∃ a us, w = .ref a ∧ H a = some (.dT (ks.zip us)) ∧ ∀ ob, St K b F (L2.upd H a (.frz ob (.dT (ks.zip us)))) σ ⟨env.vs, f (.kd ob us ks os)⟩ := by
  obtain ⟨rs', p1, p2⟩ := h.ok
  obtain ⟨a, u, A, rfl, hu, hf, sh, hk, go⟩ := St.nodeW (vs := env.vs) (ys := []) (rs' := rs') S p1 rfl
  obtain ⟨us, rfl, e0, e1⟩ := sh
  have e2 := e0.trans e1
  refine ⟨a, us, rfl, hu, fun ob => ?_⟩
  have q := go (.kd ob us ks os) (.frz ob (.dT (ks.zip us))) [] ⟨rfl, e0, e1⟩ (by
    rw [show kidsV (.frz ob (.dT (ks.zip us))) = us from zip_snd e2]
    rw [show kidsV (.dT (ks.zip us)) = us from zip_snd e2] at hk
    exact hk)
  exact ⟨q.le, q.vr, RsR.perm (p2 _) q.ow⟩
theorem St.unlock {ob : Obj} {us : List V} (S : St K b F H σ env) (h : Res env.rs w (.kd ob us ks os) f) : ∃ a, w = .ref a ∧ H a = some (.frz ob (.dT (ks.zip us))) ∧ St K b F (L2.upd H a (.dT (ks.zip us))) σ ⟨env.vs, f (.d ks os)⟩ := by
  obtain ⟨rs', p1, p2⟩ := h.ok
  obtain ⟨a, u, A, rfl, hu, hf, sh, hk, go⟩ := St.nodeW (vs := env.vs) (ys := []) (rs' := rs') S p1 rfl
  obtain ⟨rfl, e0, e1⟩ := sh
  have e2 := e0.trans e1
  refine ⟨a, rfl, hu, ?_⟩
  have q := go (.d ks os) (.dT (ks.zip us)) [] ⟨us, rfl, e0, e1⟩ (by
    rw [show kidsV (.frz ob (.dT (ks.zip us))) = us from zip_snd e2] at hk
    rw [show kidsV (.dT (ks.zip us)) = us from zip_snd e2]
    exact hk)
  exact ⟨q.le, q.vr, RsR.perm (p2 _) q.ow⟩
end
/-- the state behind the walk -/
def Unl (w : V) (ob : Obj) (us : List V) (ks : List (List Key)) (P : Ev → Prop) (env : Ev) : Prop := ∃ os g, Res env.rs w (.kd ob us ks os) g ∧ P ⟨env.vs, g (.d ks os)⟩
section
variable {c : Ctx} {N : List Str} {env : Ev} {Ψ : Post}
theorem s_lock {st : Stmt} {w : V} {ks : List (List Key)} {os : List O} {f : O → Rs} (hr : Res env.rs w (.d ks os) f)
    (h : ∀ ob us, S1 c N ⟨env.vs, f (.kd ob us ks os)⟩ st ⟨Unl w ob us ks Ψ.nx, fun z => Unl w ob us ks (Ψ.rt z), Unl w ob us ks Ψ.bk, Unl w ob us ks Ψ.ct⟩) (hx : ∀ cls pay env', ¬ c.xc cls pay env') : S1 c N env st Ψ := by
  intro X hX b F H σ S W tW xl D L
  refine (ps_lock ps_wp).wp ?_
  obtain ⟨a, us, rfl, ha, go⟩ := S.lock hr
  refine ⟨a, _, ha, True.intro, fun ob => ?_⟩
  have fin : ∀ {P : Ev → Prop} {env1 : Ev} {σ1 : L2.St} {F1 H1 : Hp}, Unl (.ref a) ob us ks P env1 → St c.K b F1 H1 σ1 env1 → ∃ env2, P env2 ∧ H1 a = some (.frz ob (.dT (ks.zip us))) ∧ St c.K b F1 (L2.upd H1 a (.dT (ks.zip us))) σ1 env2 := fun {P env1 σ1 F1 H1} q S1 => by
    obtain ⟨os1, g, hr1, hp⟩ := q
    obtain ⟨a1, e1, h1, S2⟩ := S1.unlock hr1
    cases e1
    exact ⟨_, hp, h1, S2⟩
  refine h ob us X hX b F _ σ (go ob) W tW (fun cls pay d env' σ' F' H' h => absurd h (hx cls pay env')) _ ⟨fun env1 σ1 F1 H1 q f1 S1 => ?_, fun z env1 v σ1 F1 H1 q f1 S1 => ?_, fun env1 σ1 F1 H1 q f1 S1 => ?_, fun env1 σ1 F1 H1 q f1 S1 => ?_⟩
  · obtain ⟨env2, hp, h1, S2⟩ := fin q S1
    exact ⟨h1, L.nx _ _ _ _ hp f1 S2⟩
  · obtain ⟨os1, g, hr1, hp⟩ := q
    obtain ⟨a1, e1, h1, S2⟩ := S1.unlock (.tl (r := (v, z)) hr1)
    cases e1
    exact ⟨h1, L.rt _ ⟨env1.vs, g (.d ks os1)⟩ _ _ _ _ hp f1 S2⟩
  · obtain ⟨env2, hp, h1, S2⟩ := fin q S1
    exact ⟨h1, L.bk _ _ _ _ hp f1 S2⟩
  · obtain ⟨env2, hp, h1, S2⟩ := fin q S1
    exact ⟨h1, L.ct _ _ _ _ hp f1 S2⟩
/-- .. of an expression (a comprehension) -/
theorem eo_lock {e : Expr} {w : V} {ks : List (List Key)} {os : List O} {f : O → Rs} {Φ : O → Ev → Prop} (hr : Res env.rs w (.d ks os) f) (h : ∀ ob us, EO c N ⟨env.vs, f (.kd ob us ks os)⟩ e fun z => Unl w ob us ks (Φ z)) (hx : ∀ cls pay env', ¬ c.xc cls pay env') : EO c N env e Φ := by
  intro X hX b F H σ S W tW xl Q hQ
  refine (pe_lock pe_wp).wp ?_
  obtain ⟨a, us, rfl, ha, go⟩ := S.lock hr
  refine ⟨a, _, ha, True.intro, fun ob => ?_⟩
  refine h ob us X hX b F _ σ (go ob) W tW (fun cls pay d env' σ' F' H' h => absurd h (hx cls pay env')) _ fun z env1 v F1 H1 q f1 S1 => ?_
  obtain ⟨os1, g, hr1, hp⟩ := q
  obtain ⟨a1, e1, h1, S2⟩ := S1.unlock (.tl (r := (v, z)) hr1)
  cases e1
  exact ⟨h1, hQ z ⟨env1.vs, g (.d ks os1)⟩ v F1 _ hp f1 S2⟩
end
end Y
namespace Y
open PySem L2

/-! ### calls of what is built in -/
/-- frozen arguments -/
def CbF (c : Ctx) (f : Value) (xs : List D) (Φ : D → Prop) : Prop :=
  ∀ N X, Good c N X → ∀ F H, Wf F H → ∀ vs, Reps c.K F xs vs → ∀ Q : VK, (∀ z v F' H', Φ z → Le F H F' H' → Rep c.K F' z v → Q v H') → wpC X f vs H Q
/-- seen arguments, something new that may be changed -/
def CbS (c : Ctx) (f : Value) (xs : List D) (Φ : O → Prop) : Prop :=
  ∀ N X, Good c N X → ∀ F H, Wf F H → ∀ vs, Reps c.K H xs vs → ∀ Q : VK, (∀ z v F' H', Φ z → Le F H F' H' → Own c.K F' H' z v (fun a => H a = none) → Q v H') → wpC X f vs H Q
/-- how the call of a built-in by its name lies -/
structure Bc (x : Str) (a : Expr) (es : List Expr) (pos : Pos) : Prop where
  ne : x ≠ "__name__"
  db : (x == ("__debug__" : Str)) = false
  star : ∀ env, starEach (a :: es) env = (false, eval a env) :: starEach es env
  plain : ∀ env, (backTo pos (starEach es env)).any (·.1) = false
/-- a built-in function or type as a value -/
inductive Bf : Str → Value → Prop
  | fn {x : Str} {id : String} : bootBuiltins x = some (.builtin id) → Bf x (.builtin id)
  | ty {x : Str} {T : String} : bootBuiltins x = some (.type T) → Bf x (.type T)
section
variable {c : Ctx} {N : List Str} {env : Ev} {x : Str} {a : Expr} {es : List Expr} {p pos : Pos} {f : Value}
theorem pe_bf {X : Cx} {r : List V → Hp → VK → Prop} {t : TA} (hb : Bf x f) (hc : CallR X f r) (hg : Gl X x) (hm : X.mg x = none) (ha : PA X (a :: es) t) (h : Bc x a es pos) : PE X (.Call (.Name x p) (a :: es) [] pos) (tCB r t) := by
  cases hb with
  | fn hv => exact pe_callB hc hg hm hv ha h.ne h.db (h.star _) (h.plain _)
  | ty hv => exact pe_callTy hc hg hm hv ha h.ne h.db (h.star _) (h.plain _)
theorem e_cb {Φ : D → Ev → Prop} (hm : c.g.mg x = none) (hb : Bf x f) (hk : Kn c.nm x .globalImplicit) (h : EA c N env (a :: es) fun xs env1 => ∃ zs, Seens env1 xs zs ∧ Cb c f zs (fun z => Φ z env1)) (hc : Bc x a es pos) : E c N env (.Call (.Name x p) (a :: es) [] pos) Φ := by
  intro X hX b F H σ S W tW xl Q hQ
  refine (pe_bf (r := wpC X f) hb call_wp (hX.gl hk) (by rw [hX.gmg]; exact hm) pa_wp hc).wp ?_
  refine h X hX b F H σ S W tW xl _ fun xs env1 vs F1 H1 h1 f1 S1 r1 => ?_
  obtain ⟨zs, hs, hcb⟩ := h1
  exact hcb N X hX F1 H1 S1.wf vs (S1.seens r1 hs) Q fun z v F' H' hz l r => hQ z env1 v F' H' hz (f1.trans l.ff) (S1.step l) r
theorem e_cbF {Φ : D → Ev → Prop} (hm : c.g.mg x = none) (hb : Bf x f) (hk : Kn c.nm x .globalImplicit) (h : EA c N env (a :: es) fun xs env1 => CbF c f xs (fun z => Φ z env1)) (hc : Bc x a es pos) : E c N env (.Call (.Name x p) (a :: es) [] pos) Φ := by
  intro X hX b F H σ S W tW xl Q hQ
  refine (pe_bf (r := wpC X f) hb call_wp (hX.gl hk) (by rw [hX.gmg]; exact hm) pa_wp hc).wp ?_
  refine h X hX b F H σ S W tW xl _ fun xs env1 vs F1 H1 h1 f1 S1 r1 => ?_
  exact h1 N X hX F1 H1 S1.wf vs r1 Q fun z v F' H' hz l r => hQ z env1 v F' H' hz (f1.trans l.ff) (S1.step l) r
theorem eo_cbO {Φ : O → Ev → Prop} (hm : c.g.mg x = none) (hb : Bf x f) (hk : Kn c.nm x .globalImplicit) (h : EA c N env (a :: es) fun xs env1 => CbO c f xs (fun z => Φ z env1)) (hc : Bc x a es pos) : EO c N env (.Call (.Name x p) (a :: es) [] pos) Φ := by
  intro X hX b F H σ S W tW xl Q hQ
  refine (pe_bf (r := wpC X f) hb call_wp (hX.gl hk) (by rw [hX.gmg]; exact hm) pa_wp hc).wp ?_
  refine h X hX b F H σ S W tW xl _ fun xs env1 vs F1 H1 h1 f1 S1 r1 => ?_
  exact h1 N X hX F1 H1 S1.wf vs r1 Q fun z v F' H' hz l r => hQ z env1 v F' H' hz (f1.trans l.ff) (S1.push l r)
theorem eo_cbS {Φ : O → Ev → Prop} (hm : c.g.mg x = none) (hb : Bf x f) (hk : Kn c.nm x .globalImplicit) (h : EA c N env (a :: es) fun xs env1 => ∃ zs, Seens env1 xs zs ∧ CbS c f zs (fun z => Φ z env1)) (hc : Bc x a es pos) : EO c N env (.Call (.Name x p) (a :: es) [] pos) Φ := by
  intro X hX b F H σ S W tW xl Q hQ
  refine (pe_bf (r := wpC X f) hb call_wp (hX.gl hk) (by rw [hX.gmg]; exact hm) pa_wp hc).wp ?_
  refine h X hX b F H σ S W tW xl _ fun xs env1 vs F1 H1 h1 f1 S1 r1 => ?_
  obtain ⟨zs, hs, hcb⟩ := h1
  exact hcb N X hX F1 H1 S1.wf vs (S1.seens r1 hs) Q fun z v F' H' hz l r => hQ z env1 v F' H' hz (f1.trans l.ff) (S1.push l r)
end
/-- from a rule of HandS -/
theorem _root_.L2.CallR.wp {X : Cx} {f : Value} {r : List V → Hp → VK → Prop} (h : CallR X f r) {vs : List V} {H : Hp} {Q : VK} (q : r vs H Q) : wpC X f vs H Q := fun pins s σ us I ru => h pins s σ H vs us Q I ru q
section
variable {c : Ctx} {Φ : D → Prop}
theorem cb_len_seq {zs : List D} {z : D} (hz : z.items = some zs) (h : Φ (.int (zs.length : Nat))) : Cb c (.builtin "len") [z] Φ := by
  intro N X hX F H wf vs r Q hQ
  have fin : ∀ (us : List V), us.length = zs.length → Q (.int (us.length : Nat)) H := fun us e => by
    rw [e]; exact hQ _ _ F H h (.refl wf) (by simp only [Rep])
  cases z with
  | tup ys =>
    simp only [D.items] at hz
    cases hz
    simp only [Reps, Rep] at r
    obtain ⟨_, _, rfl, ⟨a, us, rfl, g1, g2⟩, rfl⟩ := r
    exact call_len_seq.wp ⟨a, us, rfl, .inr (sqt g1), fin us g2.length.symm⟩
  | lst ys =>
    simp only [D.items] at hz
    cases hz
    simp only [Reps, Rep] at r
    obtain ⟨_, _, rfl, ⟨a, us, rfl, g1, g2⟩, rfl⟩ := r
    exact call_len_seq.wp ⟨a, us, rfl, .inl (by rw [hX.gK]; exact g1), fin us g2.length.symm⟩
  | _ => simp [D.items] at hz
theorem call_len_rd {X : Cx} : CallR X (.builtin "len") (fun xs H Q => ∃ (p : Addr) (kvs : List (List Key × V)), xs = [.ref p] ∧ Rd H p (.dT kvs) ∧ Q (.int ((kvs.length : Nat) : Int)) H) := by
  rintro pins s σ H _ us Q I r ⟨p, kvs, rfl, hp, q⟩
  obtain ⟨u, rfl, rx⟩ := vals1 r
  cases rx
  obtain ⟨z, hd, ys, rel, dd⟩ := dt_rd I.hok hp
  have hl : kvs.length = ys.length := Paired.length rel
  refine PySem.call_len_dictH hd dd (by rw [← hl]; rw [sizeLine_eq] at z; omega) ?_
  rw [← hl]
  exact ⟨.int ((kvs.length : Nat) : Int), H, I.tok _, ⟨_, rfl⟩, q⟩
theorem cb_len_dic {ks : List (List Key)} {ds : List D} (h : Φ (.int (ks.length : Nat))) : Cb c (.builtin "len") [.dic ks ds] Φ := by
  intro N X hX F H wf vs r Q hQ
  simp only [Reps, Rep] at r
  obtain ⟨_, _, rfl, ⟨a, us, rfl, g1, g2, g3⟩, rfl⟩ := r
  refine call_len_rd.wp ⟨a, _, rfl, g1, ?_⟩
  rw [List.length_zip, ← g3.length, ← g2, Nat.min_self]
  exact hQ _ _ F H h (.refl wf) (by simp only [Rep])
theorem cb_abs {i : Int} (h : Φ (.int (if i < 0 then -i else i))) : Cb c (.builtin "abs") [.int i] Φ := by
  intro N X hX F H wf vs r Q hQ
  simp only [Reps, Rep] at r
  obtain ⟨_, _, rfl, rfl, rfl⟩ := r
  exact call_abs.wp ⟨i, rfl, hQ _ _ F H h (.refl wf) (by simp only [Rep])⟩
theorem cb_int {i : Int} (h : Φ (.int i)) : Cb c (.type "int") [.int i] Φ := by
  intro N X hX F H wf vs r Q hQ
  simp only [Reps, Rep] at r
  obtain ⟨_, _, rfl, rfl, rfl⟩ := r
  exact call_int1.wp (.inl ⟨i, rfl, hQ _ _ F H h (.refl wf) (by simp only [Rep])⟩)
theorem reps_bl {K : PySem.W.Frag} {F : Hp} : ∀ {bs : List Bool} {vs : List V}, Reps K F (bs.map D.bl) vs → vs = bs.map V.bl
  | [], vs, h => by simp only [List.map_nil, Reps] at h; exact h
  | b :: bs, vs, h => by
    simp only [List.map_cons, Reps, Rep] at h
    obtain ⟨v, vs', rfl, rfl, h2⟩ := h
    rw [List.map_cons, ← reps_bl h2]
theorem reps_int {K : PySem.W.Frag} {F : Hp} : ∀ {bs : List Int} {vs : List V}, Reps K F (bs.map D.int) vs → vs = bs.map V.int
  | [], vs, h => by simp only [List.map_nil, Reps] at h; exact h
  | b :: bs, vs, h => by
    simp only [List.map_cons, Reps, Rep] at h
    obtain ⟨v, vs', rfl, rfl, h2⟩ := h
    rw [List.map_cons, ← reps_int h2]
theorem cb_all {bs : List Bool} (h : Φ (.bl (bs.all id))) : Cb c (.builtin "all") [.lst (bs.map D.bl)] Φ := by
  intro N X hX F H wf vs r Q hQ
  simp only [Reps, Rep] at r
  obtain ⟨_, _, rfl, ⟨a, us, rfl, g1, g2⟩, rfl⟩ := r
  rw [reps_bl g2] at g1
  exact (cr_all hX.calm).wp ⟨a, bs, rfl, by rw [hX.gK]; exact g1, hQ _ _ F H h (.refl wf) (by simp only [Rep])⟩
theorem cb_any {bs : List Bool} (h : Φ (.bl (bs.any id))) : Cb c (.builtin "any") [.lst (bs.map D.bl)] Φ := by
  intro N X hX F H wf vs r Q hQ
  simp only [Reps, Rep] at r
  obtain ⟨_, _, rfl, ⟨a, us, rfl, g1, g2⟩, rfl⟩ := r
  rw [reps_bl g2] at g1
  exact (cr_any hX.calm).wp ⟨a, bs, rfl, by rw [hX.gK]; exact g1, hQ _ _ F H h (.refl wf) (by simp only [Rep])⟩
theorem cb_sum {ns : List Int} (h : Φ (.int ns.sum)) : Cb c (.builtin "sum") [.lst (ns.map D.int)] Φ := by
  intro N X hX F H wf vs r Q hQ
  simp only [Reps, Rep] at r
  obtain ⟨_, _, rfl, ⟨a, us, rfl, g1, g2⟩, rfl⟩ := r
  rw [reps_int g2] at g1
  exact (cr_sum hX.calm).wp ⟨a, ns, rfl, by rw [hX.gK]; exact g1, hQ _ _ F H h (.refl wf) (by simp only [Rep])⟩
/-- tuple(xs) -/
theorem cbF_tuple {zs : List D} {z : D} (hz : z.items = some zs) (h : Φ (.tup zs)) : CbF c (.type "tuple") [z] Φ := by
  intro N X hX F H wf vs r Q hQ
  cases z with
  | tup ys =>
    simp only [D.items] at hz
    cases hz
    simp only [Reps, Rep] at r
    obtain ⟨_, _, rfl, ⟨a, us, rfl, g1, g2⟩, rfl⟩ := r
    exact call_tuple_of.wp ⟨a, us, rfl, .inr ⟨sqt (wf.ex.tp _ _ g1), hQ _ _ F H h (.refl wf) (by simp only [Rep]; exact ⟨a, us, rfl, g1, g2⟩)⟩⟩
  | lst ys =>
    simp only [D.items] at hz
    cases hz
    simp only [Reps, Rep] at r
    obtain ⟨_, _, rfl, ⟨a, us, rfl, g1, g2⟩, rfl⟩ := r
    refine call_tuple_of.wp ⟨a, us, rfl, .inl ⟨by rw [hX.gK]; exact wf.ex.sqL g1, fun p hp => ?_⟩⟩
    have l := Le.new (o := .tup us) wf hp
    exact hQ _ _ _ _ h l (by simp only [Rep]; exact ⟨p, us, rfl, upd_same, Reps.mono l.exR _ _ g2⟩)
  | _ => simp [D.items] at hz
theorem cbO_list {zs : List D} {z : D} {Φ : O → Prop} (hz : z.items = some zs) (h : Φ (.l (zs.map O.s))) : CbO c (.type "list") [z] Φ := by
  intro N X hX F H wf vs r Q hQ
  have fin : ∀ (us : List V) (p : Addr), Reps c.K F zs us → H p = none → Q (.ref p) (L2.upd H p (.lst us)) := fun us p g2 hp =>
    hQ _ _ _ _ h (Le.newO (o := .lst us) wf True.intro hp) (by simp only [Own]; exact ⟨p, us, rfl, hp, wf.fresh hp, upd_same, owns_sh g2⟩)
  cases z with
  | tup ys =>
    simp only [D.items] at hz
    cases hz
    simp only [Reps, Rep] at r
    obtain ⟨_, _, rfl, ⟨a, us, rfl, g1, g2⟩, rfl⟩ := r
    exact call_list_of.wp ⟨a, us, rfl, .inr (sqt (wf.ex.tp _ _ g1)), fun p hp => fin us p g2 hp⟩
  | lst ys =>
    simp only [D.items] at hz
    cases hz
    simp only [Reps, Rep] at r
    obtain ⟨_, _, rfl, ⟨a, us, rfl, g1, g2⟩, rfl⟩ := r
    exact call_list_of.wp ⟨a, us, rfl, .inl (by rw [hX.gK]; exact wf.ex.sqL g1), fun p hp => fin us p g2 hp⟩
  | _ => simp [D.items] at hz
theorem reps_keys {K : PySem.W.Frag} {F H : Hp} (wf : Wf F H) : ∀ {ks : List (List Key)} {us : List V} {bs : List Addr}, ks.length = us.length → IsKeys H (ks.zip us) bs → Reps K F (keysD ks) (bs.map V.ref)
  | [], us, bs, _, h => by
    have h : Paired _ ([] : List (List Key × V)) bs := h
    cases h
    exact .nil
  | k :: ks, [], bs, e, h => by cases e
  | k :: ks, u :: us, bs, e, h => by
    have h : Paired _ ((k, u) :: ks.zip us) bs := h
    cases h with
    | cons h1 h2 => exact .cons (rep_keyD (wf.tp _ _ h1)) (reps_keys wf (by simpa using e) h2)
/-- list(d) of a dict with tuple keys -/
theorem cbS_list_dic {ks : List (List Key)} {ds : List D} {Φ : O → Prop} (h : Φ (.l ((keysD ks).map O.s))) : CbS c (.type "list") [.dic ks ds] Φ := by
  intro N X hX F H wf vs r Q hQ
  simp only [Reps, Rep] at r
  obtain ⟨_, _, rfl, ⟨a, us, rfl, g1, g2, g3⟩, rfl⟩ := r
  refine (call_list_dT hX.calm).wp ⟨a, _, rfl, g1, fun p bs hp hk => ?_⟩
  exact hQ _ _ _ _ h (Le.newO (o := .lst _) wf True.intro hp) (by simp only [Own]; exact ⟨p, _, rfl, hp, wf.fresh hp, upd_same, owns_sh (reps_keys wf (g2.trans g3.length) hk)⟩)
theorem reps_perm {K : PySem.W.Frag} {F : Hp} {us us' : List V} (p : us'.Perm us) : ∀ {zs : List D}, Reps K F zs us → ∃ zs', zs'.Perm zs ∧ Reps K F zs' us' := by
  induction p with
  | nil => exact fun {zs} h => ⟨zs, .refl _, h⟩
  | @cons u us' us p ih =>
    intro zs h
    cases zs with
    | nil => simp only [Reps] at h; cases h
    | cons z zs =>
      simp only [Reps] at h
      obtain ⟨v, vs, e, h1, h2⟩ := h
      cases e
      obtain ⟨zs', q, r⟩ := ih h2
      exact ⟨z :: zs', q.cons z, .cons h1 r⟩
  | swap x y l =>
    intro zs h
    cases zs with
    | nil => simp only [Reps] at h; cases h
    | cons z zs =>
      cases zs with
      | nil =>
        simp only [Reps] at h
        obtain ⟨v, vs, e, h1, h2⟩ := h
        cases e
        cases h2
      | cons z2 zs =>
        simp only [Reps] at h
        obtain ⟨v, vs, e, h1, v2, vs2, e2, h2, h3⟩ := h
        cases e
        cases e2
        exact ⟨z2 :: z :: zs, .swap _ _ _, .cons h2 (.cons h1 h3)⟩
  | trans p1 p2 ih1 ih2 =>
    intro zs h
    obtain ⟨z1, q1, r1⟩ := ih2 h
    obtain ⟨z2, q2, r2⟩ := ih1 r1
    exact ⟨z2, q2.trans q1, r2⟩
theorem cbS_sorted_dic {ks : List (List Key)} {ds : List D} {Φ : O → Prop} (hp : ∀ k ∈ ks, ∃ i j : Int, k = [Sum.inl i, Sum.inl j]) (h : ∀ zs : List D, zs.Perm (keysD ks) → Φ (.l (zs.map O.s))) : CbS c (.builtin "sorted") [.dic ks ds] Φ := by
  intro N X hX F H wf vs r Q hQ
  simp only [Reps, Rep] at r
  obtain ⟨_, _, rfl, ⟨a, us, rfl, g1, g2, g3⟩, rfl⟩ := r
  refine (Y0.cr_sortedT hX.calm).wp ⟨a, _, rfl, g1, fun q hq => hp _ (List.of_mem_zip hq).1, fun p bs cs hpn hk hperm => ?_⟩
  obtain ⟨zs, hz, hr⟩ := reps_perm (hperm.map V.ref) (reps_keys (K := c.K) wf (g2.trans g3.length) hk)
  exact hQ _ _ _ _ (h zs hz) (Le.newO (o := .lst _) wf True.intro hpn) (by simp only [Own]; exact ⟨p, _, rfl, hpn, wf.fresh hpn, upd_same, owns_sh hr⟩)
/-- dict(pairs) -/
theorem cbO_dict {rows : List D} {ks : List (List Key)} {zs : List D} {Φ : O → Prop} (hr : rows = (ks.zip zs).map fun p => .tup [.tup (p.1.map kD), p.2]) (hl : ks.length = zs.length) (hn : ks.Nodup) (h : Φ (.d ks (zs.map O.s))) : CbO c (.type "dict") [.lst rows] Φ := by
  intro N X hX F H wf vs r Q hQ
  simp only [Reps, Rep] at r
  obtain ⟨_, _, rfl, ⟨a, us, rfl, g1, g2⟩, rfl⟩ := r
  have key : ∀ (ks : List (List Key)) (zs : List D) (us : List V), ks.length = zs.length → Reps c.K F ((ks.zip zs).map fun p => .tup [.tup (p.1.map kD), p.2]) us → ∃ rws : List Y0.Row, us = rws.map (fun r => V.ref r.1) ∧ (∀ r ∈ rws, F r.1 = some (.tup [.ref r.2.1, r.2.2.2]) ∧ F r.2.1 = some (.tup (r.2.2.1.map kV))) ∧ rws.map (·.2.2.1) = ks ∧ Reps c.K F zs (rws.map (·.2.2.2)) := by
    intro ks
    induction ks with
    | nil =>
      intro zs us e h
      cases zs with
      | nil => simp only [List.zip_nil_left, List.map_nil, Reps] at h; subst h; exact ⟨[], rfl, fun r m => (by cases m), rfl, .nil⟩
      | cons z zs => cases e
    | cons k ks ih =>
      intro zs us e h
      cases zs with
      | nil => cases e
      | cons z zs =>
        simp only [List.zip_cons_cons, List.map_cons, Reps, Rep] at h
        obtain ⟨_, us', rfl, ⟨p, _, rfl, q1, _, _, rfl, ⟨b, kvs, rfl, q2, q3⟩, vz, _, rfl, q4, rfl⟩, h2⟩ := h
        obtain ⟨rws, e1, e2, e3, e4⟩ := ih zs us' (by simpa using e) h2
        rw [reps_kD q3] at q2
        refine ⟨(p, b, k, vz) :: rws, by rw [List.map_cons, ← e1], fun r m => ?_, by rw [List.map_cons, e3], .cons q4 e4⟩
        rcases List.mem_cons.mp m with rfl | m
        · exact ⟨q1, q2⟩
        · exact e2 r m
  subst hr
  obtain ⟨rws, rfl, e2, e3, e4⟩ := key ks zs us hl g2
  have hu : X.A.units + 2 < cLine := by have := hX.room.units; omega
  refine (Y0.call_dictPT hX.calm hu).wp ⟨a, rws, rfl, by rw [hX.gK]; exact wf.ex.sqL g1, fun r m => ⟨wf.ex.tp _ _ (e2 r m).1, wf.ex.tp _ _ (e2 r m).2⟩, by rw [e3]; exact hn, fun p hp => ?_⟩
  have ez : rws.map (·.2.2) = ks.zip (rws.map (·.2.2.2)) := by
    rw [← e3]
    clear e2 e3 e4 g1 g2
    induction rws with
    | nil => rfl
    | cons r rs ih => simp [ih]
  rw [ez]
  refine hQ _ _ _ _ h (Le.newO (o := .dT _) wf True.intro hp) ?_
  simp only [Own]
  exact ⟨p, _, rfl, hp, wf.fresh hp, upd_same, by simpa using hl, owns_sh e4⟩
/-! isinstance -/
def tyD : D → Option String
  | .non => some "NoneType"
  | .bl _ => some "bool"
  | .int _ => some "int"
  | .str _ => some "str"
  | .tup _ => some "tuple"
  | .lst _ => some "list"
  | _ => none
theorem Rep.ty {K : PySem.W.Frag} {H : Hp} {z : D} {v : V} {t : String} (h : Rep K H z v) (e : tyD z = some t) : TyX K H v (.type t) := by
  cases z with
  | non => simp only [Rep] at h; subst h; cases e; exact .base .non
  | bl b => simp only [Rep] at h; subst h; cases e; exact .base (.bl b)
  | int b => simp only [Rep] at h; subst h; cases e; exact .base (.int b)
  | str b => simp only [Rep] at h; subst h; cases e; exact .base (.str b)
  | tup b => simp only [Rep] at h; obtain ⟨a, vs, rfl, h1, _⟩ := h; cases e; exact .base (.tup h1)
  | lst b =>
    simp only [Rep] at h
    obtain ⟨a, vs, rfl, h1, _⟩ := h
    cases e
    rcases h1 with (h1 | ⟨o, h1⟩) | ⟨o, _, _, h1, h2, _⟩
    · exact .base (.lst h1)
    · exact .base (.frz h1)
    · exact .kList h1 h2
  | _ => cases e
theorem cb_isi {z : D} {t : String} {y : V} {u : Value} {r : Bool} (e : tyD z = some t) (hy : ClsV y u) (hk : PySem.W.kitOne c.K (.type t) u = some r) (h : Φ (.bl r)) : Cb c (.builtin "isinstance") [z, .raw y] Φ := by
  intro N X hX F H wf vs rr Q hQ
  simp only [Reps, Rep] at rr
  obtain ⟨v, _, rfl, r1, _, _, rfl, rfl, rfl⟩ := rr
  exact call_isi.wp ⟨v, _, .type t, u, r, rfl, hy, by rw [hX.gK]; exact r1.ty e, by rw [hX.gK]; exact hk, hQ _ _ F H h (.refl wf) (by simp only [Rep])⟩
end

/-! ### slices, fields -/
section
variable {c : Ctx} {N : List Str} {env : Ev}
/-- a part of a slice -/
def EP (c : Ctx) (N : List Str) (env : Ev) (e : Option Expr) (Φ : Option Int → Ev → Prop) : Prop :=
  match e with
  | none => Φ none env
  | some e => E c N env e fun z env1 => ∃ i, z = .int i ∧ Φ (some i) env1
def cutD (xs : List D) (lo hi : Option Int) : List D := (xs.drop (HT.sIx xs.length 0 lo)).take (HT.sIx xs.length xs.length hi - HT.sIx xs.length 0 lo)
theorem cut_reps {K : PySem.W.Frag} {F : Hp} {xs : List D} {vs : List V} {lo hi : Option Int} (r : Reps K F xs vs) : Reps K F (cutD xs lo hi) (cutV vs lo hi) := by
  unfold cutD cutV
  rw [r.length]
  exact (r.drop _).take _
def wpO' (X : Cx) (e : Option Expr) : TO := fun σ H Q => match e with
  | none => Q none H
  | some e => wpE X e σ H fun x H1 => ∃ i, x = .int i ∧ Q (some i) H1
theorem po_wp {X : Cx} {e : Option Expr} : PO X e (wpO' X e) := by
  cases e with
  | none => exact po_none
  | some e => exact po_some pe_wp
theorem EP.run {e : Option Expr} {Φ : Option Int → Ev → Prop} (h : EP c N env e Φ) {X : Cx} (hX : Good c N X) {b : Hp × Hp} {F H : Hp} {σ : L2.St} (S : St c.K b F H σ env) {W : WX} (tW : Takes X W) (xl : XL c b F W) {Q : Option Int → Hp → Prop}
    (hQ : ∀ z env' F' H', Φ z env' → FE F F' → St c.K b F' H' σ env' → Q z H') : wpO' X e σ H Q := by
  cases e with
  | none => exact hQ none env F H h (.refl F) S
  | some e =>
    refine h X hX b F H σ S W tW xl _ fun z env1 v F1 H1 h1 f1 S1 r1 => ?_
    obtain ⟨i, rfl, hz⟩ := h1
    simp only [Rep] at r1
    exact ⟨i, r1, hQ _ env1 F1 H1 hz f1 S1⟩
theorem e_slT {a : Expr} {lo hi : Option Expr} {p2 pos : Pos} {Φ : D → Ev → Prop} (h : E c N env a fun x env1 => EP c N env1 lo fun l env2 => EP c N env2 hi fun u env3 => ∃ xs, x = .tup xs ∧ Φ (.tup (cutD xs l u)) env3) : E c N env (.Subscript a (.Slice lo hi none p2) pos) Φ := by
  intro X hX b F H σ S W tW xl Q hQ
  refine (pe_slice sl_tupA pe_wp po_wp po_wp).wp ?_
  refine h X hX b F H σ S W tW xl _ fun x env1 vx F1 H1 h1 f1 S1 r1 => ?_
  refine h1.run hX S1 tW (xl.fe f1) fun l env2 F2 H2 h2 f2 S2 => ?_
  refine h2.run hX S2 tW (xl.fe (f1.trans f2)) fun u env3 F3 H3 h3 f3 S3 => ?_
  obtain ⟨xs, rfl, hp⟩ := h3
  have r3 := (f2.trans f3).rep r1
  simp only [Rep] at r3
  obtain ⟨p, us, rfl, g1, g2⟩ := r3
  have ff := (f1.trans f2).trans f3
  have cr : Reps c.K F3 (cutD xs l u) (cutV us l u) := cut_reps g2
  refine ⟨p, us, rfl, sqt (S3.wf.ex.tp _ _ g1), fun z => ?_, fun _ q hq => ?_⟩
  · refine hQ _ env3 _ F3 H3 hp ff S3 ?_
    have e : cutV us l u = us := by
      unfold cutV
      rw [z.1, z.2]
      simp
    rw [e] at cr
    simp only [Rep]
    exact ⟨p, us, rfl, g1, cr⟩
  · have ln := Le.new (o := .tup (cutV us l u)) S3.wf hq
    exact hQ _ env3 _ _ _ hp (ff.trans ln.ff) (S3.step ln) (by simp only [Rep]; exact ⟨q, _, rfl, upd_same, Reps.mono ln.exR _ _ cr⟩)
theorem eo_slL {a : Expr} {lo hi : Option Expr} {p2 pos : Pos} {Φ : O → Ev → Prop} (h : E c N env a fun x env1 => EP c N env1 lo fun l env2 => EP c N env2 hi fun u env3 => ∃ xs, x = .lst xs ∧ Φ (.l ((cutD xs l u).map O.s)) env3) : EO c N env (.Subscript a (.Slice lo hi none p2) pos) Φ := by
  intro X hX b F H σ S W tW xl Q hQ
  refine (pe_slice sl_list pe_wp po_wp po_wp).wp ?_
  refine h X hX b F H σ S W tW xl _ fun x env1 vx F1 H1 h1 f1 S1 r1 => ?_
  refine h1.run hX S1 tW (xl.fe f1) fun l env2 F2 H2 h2 f2 S2 => ?_
  refine h2.run hX S2 tW (xl.fe (f1.trans f2)) fun u env3 F3 H3 h3 f3 S3 => ?_
  obtain ⟨xs, rfl, hp⟩ := h3
  have r3 := (f2.trans f3).rep r1
  simp only [Rep] at r3
  obtain ⟨p, us, rfl, g1, g2⟩ := r3
  have ff := (f1.trans f2).trans f3
  refine ⟨p, us, rfl, by rw [hX.gK]; exact S3.wf.ex.sqL g1, fun q hq => ?_⟩
  exact hQ _ env3 _ _ _ hp ff (S3.push (Le.newO (o := .lst (cutV us l u)) S3.wf True.intro hq) (by simp only [Own]; exact ⟨q, _, rfl, hq, S3.wf.fresh hq, upd_same, owns_sh (cut_reps g2)⟩))
/-- the fields of an instance by their places -/
theorem zip_lookup {ns : List Str} {us : List V} {f : Str} {i : Nat} {v : V} (h : ns.findIdx? (fun x => x == f) = some i) (hv : us[i]? = some v) : (ns.zip us).lookup f = some v := by
  induction ns generalizing us i with
  | nil => simp at h
  | cons n ns ih =>
    cases us with
    | nil => simp at hv
    | cons u us =>
      rw [List.findIdx?_cons] at h
      rw [List.zip_cons_cons, List.lookup_cons]
      by_cases e : (n == f) = true
      · rw [if_pos e] at h
        cases h
        have e2 : (f == n) = true := by rw [beq_iff_eq] at e ⊢; exact e.symm
        rw [e2]
        simpa using hv
      · rw [if_neg e] at h
        have e2 : (f == n) = false := by
          cases q : f == n with
          | false => rfl
          | true => exact absurd (by rw [beq_iff_eq] at q ⊢; exact q.symm) e
        rw [e2]
        cases q : ns.findIdx? (fun x => x == f) with
        | none => rw [q] at h; cases h
        | some j =>
          rw [q] at h
          cases h
          exact ih q (by simpa using hv)
theorem e_fld {e : Expr} {f : Str} {pos : Pos} {Φ : D → Ev → Prop} (h : E c N env e fun x env1 => ∃ C ns ds i z, x = .ins C ns ds ∧ Cls c.K C ∧ NoAttr c.K C f ∧ ns.findIdx? (fun x => x == f) = some i ∧ ds[i]? = some z ∧ Φ z env1) (hb : ∀ env, attributeBase e f env (eval e env) = eval e env) : E c N env (.Attribute e f pos) Φ := by
  intro X hX b F H σ S W tW xl Q hQ
  refine (pe_fld pe_wp (hb _)).wp ?_
  refine h X hX b F H σ S W tW xl _ fun x env1 vx F1 H1 h1 f1 S1 r1 => ?_
  obtain ⟨C, ns, ds, i, z, rfl, hc, hn, hi, hz, hp⟩ := h1
  simp only [Rep] at r1
  obtain ⟨a, dx, us, rfl, g1, g2, g3⟩ := r1
  obtain ⟨v, hv, rv⟩ := g3.get hz
  exact ⟨a, C, dx, _, v, rfl, S1.wf.ex.ins _ _ _ _ g1, by rw [hX.gK]; exact hc, by rw [hX.gK]; exact hn, zip_lookup hi hv, hQ z env1 v F1 H1 hp f1 S1 rv⟩
end
end Y
namespace Y
open PySem L2
section
variable {c : Ctx} {N : List Str} {env : Ev}
/-- d.clear() -/
theorem e_clearD {o : Expr} {apos cpos : Pos} {Φ : D → Ev → Prop} (h : E c N env o fun x env1 => ∃ w ks os f, x = .raw w ∧ Res env1.rs w (.d ks os) f ∧ Φ .non ⟨env1.vs, f (.d [] [])⟩) (m : Mth0 o "clear" apos cpos) : E c N env (.Call (.Attribute o "clear" apos) [] [] cpos) Φ := by
  intro X hX b F H σ S W tW xl Q hQ
  refine (pe_bm0 PySem.F.plainAttrs_dict PySem.F.slot_dict_clear PySem.F.type_dict_clear Y0.mt_clearT pe_wp (m.base _) m.line).wp ?_
  refine h X hX b F H σ S W tW xl _ fun x env1 vx F1 H1 h1 f1 S1 r1 => ?_
  obtain ⟨w, ks, os, f, rfl, hr, hp⟩ := h1
  simp only [Rep] at r1
  have r1 : w = vx := r1.symm
  subst r1
  obtain ⟨rs', p1, p2⟩ := hr.ok
  obtain ⟨a1, u, A, rfl, hu, hf, sh, hk, go⟩ := S1.nodeW (ys := []) (rs' := rs') p1 rfl
  obtain ⟨us, rfl, e0, e1⟩ := sh
  refine ⟨.inr (.inr (.inl ⟨rfl, .inr ⟨_, hu⟩⟩)), a1, _, rfl, rfl, hu, ?_⟩
  have q := go (.d [] []) (.dT []) [] ⟨[], rfl, rfl, rfl⟩ .nil
  exact hQ .non _ .non F1 _ hp f1 ⟨q.le, q.vr, RsR.perm (p2 _) q.ow⟩ (by simp only [Rep])
/-- two dicts that hold the same -/
def SameDD (ks : List (List Key)) (ds : List D) (ls : List (List Key)) (es : List D) : Prop :=
  ks.length = ls.length ∧ ∀ (j : Nat) (k : List Key) (z : D), ks[j]? = some k → ds[j]? = some z → ∃ z', dGet ls es k = some z' ∧ z.plain = true ∧ z'.plain = true ∧ SeqAt.shaped z.py = true ∧ SeqAt.shaped z'.py = true ∧ PyData.eqv z.py z'.py = true
theorem sameDT_of {K : PySem.W.Frag} {H : Hp} {ks ls : List (List Key)} {ds es : List D} {us vs : List V} (r1 : Reps K H ds us) (r2 : Reps K H es vs) (l1 : ks.length = ds.length) (l2 : ls.length = es.length) (h : SameDD ks ds ls es) : Y0.SameDT K H (ks.zip us) (ls.zip vs) := by
  have e1 := l1.trans r1.length
  have e2 := l2.trans r2.length
  refine ⟨by rw [List.length_zip, List.length_zip, ← e1, ← e2, Nat.min_self, Nat.min_self]; exact h.1, fun p hp => ?_⟩
  obtain ⟨j, hj, ej⟩ := List.getElem_of_mem hp
  have g : (ks.zip us)[j]? = some p := by rw [List.getElem?_eq_getElem hj, ej]
  obtain ⟨k, v⟩ := p
  rw [List.getElem?_zip_eq_some] at g
  obtain ⟨z, hz, rz⟩ := r1.getV g.2
  obtain ⟨z', h1, h2, h3, h4, h5, h6⟩ := h.2 j k z g.1 hz
  obtain ⟨v', hv', rv'⟩ := dGet_rep r2 h1
  exact ⟨v', z.py, z'.py, by rw [valV_zip e2]; exact hv', Rep.dp z v h2 rz, Rep.dp z' v' h3 rv', h4, h5, h6⟩
theorem t_neDic {a d : Expr} {pos : Pos} {Φ : Bool → Ev → Prop} (h : E c N env a fun x env1 => E c N env1 d fun y env2 => ∃ ks ds ls es, Seen env2 x (.dic ks ds) ∧ Seen env2 y (.dic ls es) ∧ SameDD ks ds ls es ∧ Φ false env2) (hm : behindInMarks .NotEq d = false) : T c N env (.Compare a [.NotEq] [d] pos) Φ := by
  intro X hX b F H σ S W tW xl Q hQ
  refine (pt_cmpR (Y0.op_neDT (by have := hX.room.units; have := hX.room.un; omega)) pe_wp pe_wp hm).wp ?_
  refine h X hX b F H σ S W tW xl _ fun x env1 vx F1 H1 h1 f1 S1 r1 => ?_
  refine h1 X hX b F1 H1 σ S1 W tW (xl.fe f1) _ fun y env2 vy F2 H2 h2 f2 S2 r2 => ?_
  obtain ⟨ks, ds, ls, es, s1, s2, hs, hp⟩ := h2
  have q1 := S2.seen (f2.rep r1) s1
  have q2 := S2.seen r2 s2
  simp only [Rep] at q1 q2
  obtain ⟨a1, us, rfl, g1, g2, g3⟩ := q1
  obtain ⟨a2, us', rfl, g4, g5, g6⟩ := q2
  exact ⟨a1, a2, _, _, rfl, rfl, g1, g4, by rw [hX.gK]; exact sameDT_of g3 g6 g2 g5 hs, false, rfl, hQ false env2 F2 H2 hp (f1.trans f2) S2⟩
/-- isinstance of a dict that is changed elsewhere -/
theorem t_isiD {x : Str} {a b : Expr} {p pos : Pos} {Φ : D → Ev → Prop} (hm : c.g.mg x = none) (hb : Bf x (.builtin "isinstance")) (hk : Kn c.nm x .globalImplicit) (h : EA c N env [a, b] fun xs env1 => ∃ w ks os f, xs = [.raw w, .raw (.ty "dict")] ∧ Res env1.rs w (.d ks os) f ∧ Φ (.bl true) env1) (hc : Bc x a [b] pos) : E c N env (.Call (.Name x p) [a, b] [] pos) Φ := by
  intro X hX b F H σ S W tW xl Q hQ
  refine (pe_bf hb call_isi (hX.gl hk) (by rw [hX.gmg]; exact hm) pa_wp hc).wp ?_
  refine h X hX b F H σ S W tW xl _ fun xs env1 vs F1 H1 h1 f1 S1 r1 => ?_
  obtain ⟨w, ks, os, f, rfl, hr, hp⟩ := h1
  simp only [Reps, Rep] at r1
  obtain ⟨_, _, rfl, rfl, _, _, rfl, rfl, rfl⟩ := r1
  obtain ⟨a1, us, rfl, hu, _⟩ := S1.dic hr
  exact ⟨_, _, .type "dict", .type "dict", true, rfl, .ty "dict", .base (.dT hu), kit_ty (by decide +kernel), hQ _ env1 _ F1 H1 hp f1 S1 (by simp only [Rep])⟩
/-- the pointers of a dict's values, their trees put in -/
theorem ent_dicts {vs : List (Option D)} {rs rs' : Rs} {w : V} {ks : List (List Key)} {ws : List V} {ts : List O} {st : List Stmt} {Ψ : Post} (hl : ws.length = ts.length) (hp : rs.Perm ((w, .d ks (ws.map fun v => O.s (.raw v))) :: (ws.zip ts ++ rs'))) (h : R c N ⟨vs, (w, .d ks ts) :: rs'⟩ st Ψ) : R c N ⟨vs, rs⟩ st Ψ := by
  intro X hX b F H σ S
  refine h X hX b F H σ ?_
  obtain ⟨a, u, A, rfl, hu, hf, sh, hk, go⟩ := St.nodeW (vs := vs) (t := .d ks (ws.map fun v => O.s (.raw v))) S hp rfl
  obtain ⟨us, rfl, e0, e1⟩ := sh
  have e2 := e0.trans e1
  have e0' : ks.length = ws.length := by simpa using e0
  rw [show kidsV (.dT (ks.zip us)) = us from zip_snd e2] at hk
  simp only [O.kids] at hk
  have m1 : (ws.zip ts).map (·.2) = ts := List.map_snd_zip (by omega)
  have m2 : (ws.zip ts).map (·.1) = ws := List.map_fst_zip (by omega)
  rw [m1, m2] at hk
  obtain ⟨B, k1, k2⟩ := Owns.spl (by simpa using e1) hk
  have ew : us = ws := by
    clear hk k2 go hu hp m1 m2 e2 e0 e0' hl
    have : ∀ (ws us : List V) (A : Addr → Prop), Owns c.K F H (ws.map fun v => O.s (.raw v)) us A → us = ws := by
      intro ws
      induction ws with
      | nil => intro us A h; simp only [List.map_nil, Owns] at h; exact h
      | cons v ws ih =>
        intro us A h
        simp only [List.map_cons, Owns, Own, Rep] at h
        obtain ⟨v', us', B, rfl, rfl, h3⟩ := h
        rw [ih us' _ h3]
    exact this ws us _ k1
  subst ew
  have q := go (.d ks ts) (.dT (ks.zip us)) [] ⟨us, rfl, by omega, hl.symm⟩ (by
    rw [show kidsV (.dT (ks.zip us)) = us from zip_snd e2]
    simpa [O.kids] using Owns.reg k2 fun x hx => hx.1)
  rw [upd_self hu] at q
  exact q
end
end Y
namespace Y
open PySem L2

/-! ### what a def promises -/
/-- from the arguments and the resources handed in: the wish behind it, with the resources handed back; the wish of exceptions -/
abbrev Spec := List D → Rs → (O → Rs → Prop) → (Value → Pay → Prop) → Prop
def spOf (K : PySem.W.Frag) (S : Spec) : Sp := fun vs H Q E => ∃ (b : Hp × Hp) (F : Hp) (zs : List D) (rs : Rs) (P : O → Rs → Prop) (P2 : Value → Pay → Prop), Le b.1 b.2 F H ∧ Reps K F zs vs ∧ RsR K F H rs (fun a => b.2 a = none) ∧ S zs rs P P2 ∧
  (∀ z rs' v F' H', P z rs' → FE F F' → Le b.1 b.2 F' H' → RsR K F' H' ((v, z) :: rs') (fun a => b.2 a = none) → Q v H') ∧ (∀ cls pay d F' H', P2 cls pay → FE F F' → Le b.1 b.2 F' H' → PayR K F' H' pay d → E cls d H')
/-- the wish at a def's end -/
def Fin (P : O → Rs → Prop) (z : O) (env : Ev) : Prop := ∃ rs' junk, env.rs.Perm (rs' ++ junk) ∧ P z rs'
def startD (N : List Str) (zs : List D) : List (Option D) := zs.map some ++ List.replicate (N.length - zs.length) none
theorem VarsR.start {K : PySem.W.Frag} {F : Hp} {N : List Str} {zs : List D} {vs : List V} (h : Reps K F zs vs) : VarsR K F (startD N zs) (L2.start N vs) := by
  unfold startD L2.start
  rw [h.length]
  generalize N.length - vs.length = n
  induction zs generalizing vs with
  | nil =>
    simp only [Reps] at h
    subst h
    simp only [List.map_nil, List.nil_append]
    induction n with
    | zero => rfl
    | succ n ih => exact ⟨none, _, by rw [List.replicate_succ], (fun z e => nomatch e), ih⟩
  | cons z zs ih =>
    simp only [Reps] at h
    obtain ⟨v, vs', rfl, h1, h2⟩ := h
    refine ⟨some v, _, rfl, (fun y e => ?_), ih h2⟩
    cases e
    exact ⟨v, rfl, h1⟩
/-- what is to be seen of a def's names -/
def nmOk (sc : Scope) (nm : List (Str × NameKind)) : Bool := (nm.all fun y => decide (sc.names.lookup y.1 = some y.2)) && (nm.all fun y => !(y.1 == ("__debug__" : Str)) && !(y.1 == ("__classdict__" : Str)))
/-- a def as it stands behind the top -/
structure FnI (g : Pg) (f : Addr) (k : Nat) (S : Spec) : Prop where
  ex : ∃ fd ps, FnOk g.P g.w g.K g.mg g.base (L2.CX g.P g.w) k f fd ps (spOf g.K S) ∧ Binds g.K fd ps []
  kp : PySem.W.keepIn g.K (.ref f) = true
/-- by its name -/
structure Fn (g : Pg) (x : Str) (k : Nat) (S : Spec) : Prop where
  ex : ∃ f, g.mg x = some (.ref f) ∧ FnI g f k S
  db : (x == ("__debug__" : Str)) = false
abbrev Pg.ctx (g : Pg) (nm : List (Str × NameKind)) (k : Nat) (P2 : Value → Pay → Prop) : Ctx := ⟨g, nm, k, fun cls pay _ => P2 cls pay⟩
abbrev Pst (P : O → Rs → Prop) : Post := ⟨Fin P (.s .non), Fin P, fun _ => False, fun _ => False⟩
theorem fnI_ok {g : Pg} {x qual : Str} {st : Stmt} {f : Addr} {fd : FuncData} {N ps : List Str} {nl : List (Str × NameKind)} {k : Nat} {S : Spec} (F : FunD g.K x qual (defArgs st) (defBody st) (defScope st) [] [] f fd) (sc : FnScope N ps (defScope st)) (nm : nmOk (defScope st) nl = true)
    (len : ∀ zs rs P P2, S zs rs P P2 → zs.length = ps.length) (body : ∀ zs rs P P2, S zs rs P P2 → R (g.ctx nl k P2) N ⟨startD N zs, rs⟩ (defBody st) (Pst P)) : FnOk g.P g.w g.K g.mg g.base (L2.CX g.P g.w) (k + 1) f fd ps (spOf g.K S) := by
  refine F.ok sc (fun vs H Q E h => ?_) fun cdv A outer s H vs Q E hr h => ?_
  · obtain ⟨b, F, zs, rs, P, P2, _, h2, _, h4, _⟩ := h
    rw [← h2.length]
    exact len zs rs P P2 h4
  · obtain ⟨b, F1, zs, rs, P, P2, h1, h2, h3, h4, h5, h6⟩ := h
    refine ⟨_, pss_wp, ?_⟩
    unfold nmOk at nm
    simp only [Bool.and_eq_true, List.all_eq_true, decide_eq_true_eq, Bool.not_eq_true'] at nm
    have gd : Good (g.ctx nl k P2) N (cxOf (L2.CX g.P g.w) g.P g.w g.K g.mg g.base N qual (defScope st) f cdv A outer s H E) :=
      ⟨rfl, rfl, rfl, rfl, rfl, rfl, fun x k hk => .inl (nm.1 _ hk), fun x k hk => nm.2 _ hk, fun x k _ _ => .inl rfl, rfl, sc.kind, hr, sc.nd, passes_of rfl⟩
    refine body zs rs P P2 h4 _ gd b F1 H _ ⟨h1, VarsR.start h2, h3⟩ (fun cls d _ H => E cls d H) (takes_of rfl rfl rfl rfl) (fun cls pay d env' σ' F' H' p f S' pr => h6 cls pay d F' H' p f S'.le pr) _ ⟨fun env' σ' F' H' q f S' => ?_, fun z env' v σ' F' H' q f S' => ?_, fun _ _ _ _ q => q.elim, fun _ _ _ _ q => q.elim⟩
    · obtain ⟨rs', junk, p, hp⟩ := q
      have S2 := S'.pushS (z := .non) (v := .non) (by simp only [Rep])
      obtain ⟨B, g1, g2⟩ := RsR.spl (rs := (.non, .s .non) :: rs') (rs' := junk) (S2.ow.perm (p.cons _))
      exact h5 (.s .non) rs' .non F' H' hp f S'.le (g1.reg fun a ha => ha.1)
    · obtain ⟨rs', junk, p, hp⟩ := q
      obtain ⟨B, g1, g2⟩ := RsR.spl (rs := (v, z) :: rs') (rs' := junk) (S'.ow.perm (p.cons _))
      exact h5 z rs' v F' H' hp f S'.le (g1.reg fun a ha => ha.1)
theorem fnI {g : Pg} {x qual : Str} {st : Stmt} {f : Addr} {fd : FuncData} {N ps : List Str} {nl : List (Str × NameKind)} {k : Nat} {S : Spec} (F : FunD g.K x qual (defArgs st) (defBody st) (defScope st) [] [] f fd) (sc : FnScope N ps (defScope st)) (nm : nmOk (defScope st) nl = true) (hb : Binds g.K fd ps [])
    (len : ∀ zs rs P P2, S zs rs P P2 → zs.length = ps.length) (body : ∀ zs rs P P2, S zs rs P P2 → R (g.ctx nl k P2) N ⟨startD N zs, rs⟩ (defBody st) (Pst P)) : FnI g f (k + 1) S :=
  ⟨⟨fd, ps, fnI_ok F sc nm len body, hb⟩, F.kp⟩
/-- a def of the top -/
def Dx (g : Pg) (x : Str) (st : Stmt) : Prop := ∃ f fd, g.mg x = some (.ref f) ∧ FunD g.K x x (defArgs st) (defBody st) (defScope st) [] [] f fd
theorem fn_mk {g : Pg} {x : Str} {st : Stmt} {N ps : List Str} {nl : List (Str × NameKind)} {k : Nat} {S : Spec} (D : Dx g x st) (sc : FnScope N ps (defScope st)) (nm : nmOk (defScope st) nl = true)
    (hb : ∀ (kV doc pm : Value) (an : Option Addr) (cdv ct : Value) (us : List Value), us.length = ps.length → bindArgs (PySem.W.fnOf x x (defArgs st) (defBody st) (defScope st) .none kV doc pm an cdv ct) ⟨us, []⟩ = pure (ps.zip us)) (db : (x == ("__debug__" : Str)) = false)
    (len : ∀ zs rs P P2, S zs rs P P2 → zs.length = ps.length) (body : ∀ zs rs P P2, S zs rs P P2 → R (g.ctx nl k P2) N ⟨startD N zs, rs⟩ (defBody st) (Pst P)) : Fn g x (k + 1) S := by
  obtain ⟨f, fd, hm, F⟩ := D
  exact ⟨⟨f, hm, fnI F sc nm (F.bindsN hb) len body⟩, db⟩
/-- the end of a def that has no resources -/
theorem fin_nil {P : O → Rs → Prop} {z : O} {env : Ev} (h : P z []) : Fin P z env := ⟨[], env.rs, .refl _, h⟩
theorem fin_one {P : O → Rs → Prop} {z : O} {env : Ev} {w : V} {t : O} {rs : Rs} (h : Tak env.rs w t rs) (p : P z [(w, t)]) : Fin P z env := ⟨[(w, t)], rs, h.perm, p⟩

/-! ### calls of defs -/
section
variable {c : Ctx} {N : List Str} {env : Ev}
theorem eo_call {x : Str} {a : Expr} {es : List Expr} {p pos : Pos} {k : Nat} {S : Spec} {Φ : O → Ev → Prop} (hf : Fn c.g x k S) (hk : Kn c.nm x .globalImplicit) (hl : k ≤ c.lvl)
    (h : EA c N env (a :: es) fun zs env1 => ∃ rs1 rs2, env1.rs.Perm (rs1 ++ rs2) ∧ S zs rs1 (fun z rs' => Φ z ⟨env1.vs, rs' ++ rs2⟩) (fun cls pay => c.xc cls pay ⟨env1.vs, rs2⟩))
    (he : ∀ env, starEach (a :: es) env = (false, eval a env) :: starEach es env) (hpl : ∀ env, (backTo pos (starEach es env)).any (·.1) = false) : EO c N env (.Call (.Name x p) (a :: es) [] pos) Φ := by
  intro X hX b F H σ S0 W tW xl Q hQ
  obtain ⟨⟨f, hm, ⟨fd, ps, ok, hb⟩, kp⟩, db⟩ := hf
  rw [← hX.gP, ← hX.gw, ← hX.gK, ← hX.gmg, ← hX.gbase] at ok
  refine (pe_callS (E := WE W) ok (hX.room.mono hl) (hX.gl hk) (by rw [hX.gmg]; exact hm) (by rw [hX.gK]; exact kp) (by rw [hX.gK]; exact hb) (fun σ => passAt tW σ) pa_wp db (he _) (hpl _)).wp ?_
  refine h X hX b F H σ S0 W tW xl _ fun zs env1 vs F1 H1 h1 f1 S1 r1 => ?_
  obtain ⟨rs1, rs2, pm, hs⟩ := h1
  have S2 : St c.K b F1 H1 σ ⟨env1.vs, rs2 ++ rs1⟩ := ⟨S1.le, S1.vr, S1.ow.perm (pm.trans List.perm_append_comm)⟩
  obtain ⟨b2, S3, hb2, back⟩ := St.hide S2
  refine ⟨(F1, b2), F1, zs, rs1, _, _, S3.le, by rw [hX.gK]; exact r1, by rw [hX.gK]; exact S3.ow, hs, fun z rs' v F' H' hp f l ow => ?_, fun cls pay d F' H' hp f l pr => ?_⟩
  · rw [hX.gK] at ow
    have S4 : St c.K (F1, b2) F' H' σ ⟨env1.vs, (v, z) :: rs'⟩ := ⟨l, S3.vr.mono f.ex, ow⟩
    have S5 := back F' H' σ _ S4
    refine hQ z ⟨env1.vs, rs' ++ rs2⟩ v F' H' hp (f1.trans f) ⟨S5.le, S5.vr, S5.ow.perm ?_⟩
    exact (List.perm_append_comm (l₁ := rs2) (l₂ := (v, z) :: rs'))
  · have S4 : St c.K (F1, b2) F' H' σ ⟨env1.vs, []⟩ := ⟨l, S3.vr.mono f.ex, .nil⟩
    have S5 := back F' H' σ _ S4
    rw [List.append_nil] at S5
    exact xl cls pay d _ σ F' H' hp (f1.trans f) S5 (by rw [show c.K = X.K from hX.gK.symm]; exact pr)
theorem e_call {x : Str} {a : Expr} {es : List Expr} {p pos : Pos} {k : Nat} {S : Spec} {Φ : D → Ev → Prop} (hf : Fn c.g x k S) (hk : Kn c.nm x .globalImplicit) (hl : k ≤ c.lvl)
    (h : EA c N env (a :: es) fun zs env1 => ∃ rs1 rs2, env1.rs.Perm (rs1 ++ rs2) ∧ S zs rs1 (fun z rs' => Φ z.fz ⟨env1.vs, rs' ++ rs2⟩) (fun cls pay => c.xc cls pay ⟨env1.vs, rs2⟩))
    (he : ∀ env, starEach (a :: es) env = (false, eval a env) :: starEach es env) (hpl : ∀ env, (backTo pos (starEach es env)).any (·.1) = false) : E c N env (.Call (.Name x p) (a :: es) [] pos) Φ := (eo_call hf hk hl h he hpl).toE
/-- C(..) -/
theorem eo_make {x : Str} {a : Expr} {es : List Expr} {p pos : Pos} {k : Nat} {S : Spec} {C f : Addr} {Φ : O → Ev → Prop} (hm : c.g.mg x = some (.ref C)) (mk : Mk c.g.K C f) (hf : FnI c.g f k S) (db : (x == ("__debug__" : Str)) = false) (hk : Kn c.nm x .globalImplicit) (hl : k + 1 ≤ c.lvl)
    (h : EA c N env (a :: es) fun zs env1 => ∀ w, S (.raw w :: zs) [(w, .i C [] [])] (fun z rs' => z = .s .non ∧ ∃ t, rs' = [(w, t)] ∧ Φ t env1) (fun _ _ => False))
    (he : ∀ env, starEach (a :: es) env = (false, eval a env) :: starEach es env) (hpl : ∀ env, (backTo pos (starEach es env)).any (·.1) = false) : EO c N env (.Call (.Name x p) (a :: es) [] pos) Φ := by
  intro X hX b F H σ S0 W tW xl Q hQ
  obtain ⟨⟨fd, ps, ok, hb⟩, kp⟩ := hf
  rw [← hX.gP, ← hX.gw, ← hX.gK, ← hX.gmg, ← hX.gbase] at ok
  refine (pe_make (ds := []) (dvs := []) (by rw [hX.gK]; exact mk) ok (hX.room.mono hl) (hX.gl hk) (by rw [hX.gmg]; exact hm) (by rw [hX.gK]; exact hb) .nil passL pa_wp db (he _) (hpl _)).wp ?_
  refine h X hX b F H σ S0 W tW xl _ fun zs env1 vs F1 H1 h1 f1 S1 r1 => ?_
  intro y dy hy hdy hne
  rw [List.append_nil]
  have S2 : St c.K b F1 H1 σ ⟨env1.vs, env1.rs ++ []⟩ := by rw [List.append_nil]; exact S1
  obtain ⟨b2, S3, hb2, back⟩ := St.hide S2
  have nb : ∀ a, H1 a = none → b2 a = none := fun a h => by
    cases q : b2 a with
    | none => rfl
    | some u => rw [hb2 a u q] at h; cases h
  have l1 : Le F1 b2 F1 (L2.upd H1 dy (.own y)) := Le.write (b := (F1, b2)) S3.le True.intro (S1.wf.fresh hdy) (nb dy hdy)
  have hy2 : L2.upd H1 dy (.own y) y = none := by rw [upd_ne (Ne.symm hne)]; exact hy
  -- the instance's own dict is held back, too
  let b3 : Hp := L2.upd b2 dy (.own y)
  have l2 : Le F1 b3 F1 (L2.upd H1 dy (.own y)) := ⟨fun a u h => h, l1.wf, fun a u h => by
    by_cases z : a = dy
    · subst z
      have : b3 a = some (.own y) := upd_same
      rw [this] at h; rw [upd_same]; exact h
    · have : b3 a = b2 a := upd_ne z
      rw [this] at h; exact l1.ex a u h, fun a h => .inl h⟩
  have by3 : b3 y = none := by
    have : b3 y = b2 y := upd_ne (Ne.symm hne)
    rw [this]; exact nb y hy
  have l3 : Le F1 b3 F1 (L2.upd (L2.upd H1 dy (.own y)) y (.ins C dy [])) := Le.write (b := (F1, b3)) l2 True.intro (S1.wf.fresh hy) by3
  have own : RsR c.K F1 (L2.upd (L2.upd H1 dy (.own y)) y (.ins C dy [])) [(.ref y, .i C [] [])] (fun a => b3 a = none) := by
    refine .cons (fun _ => True) ?_ .nil
    simp only [Own]
    exact ⟨y, dy, [], rfl, ⟨by3, True.intro⟩, S1.wf.fresh hy, upd_same, rfl, .nil⟩
  refine ⟨(F1, b3), F1, .raw (.ref y) :: zs, [(.ref y, .i C [] [])], _, _, l3, .cons (by simp only [Rep]) (by rw [hX.gK]; exact r1), by rw [hX.gK]; exact own, h1 (.ref y), fun z rs' v F' H' hp f l ow => ?_, fun cls pay d F' H' hp f l pr => hp.elim⟩
  obtain ⟨rfl, t, rfl, ht⟩ := hp
  rw [hX.gK] at ow
  obtain ⟨B, o1, o2⟩ := ow.uncons
  simp only [Own, Rep] at o1
  refine ⟨o1, ?_⟩
  have lb : ∀ a u, b2 a = some u → b3 a = some u := fun a u h => by
    have : a ≠ dy := fun z => by subst z; rw [nb a hdy] at h; cases h
    have : b3 a = b2 a := upd_ne this
    rw [this]; exact h
  have l4 : Le F1 b2 F' H' := ⟨l.ff, l.wf, fun a u h => l.ex a u (lb a u h), fun a h => by
    rcases l.nw a h with q | q
    · exact .inl q
    · refine .inr ?_
      by_cases z : a = dy
      · subst z; exact nb a hdy
      · have : b3 a = b2 a := upd_ne z
        rw [← this]; exact q⟩
  have o3 : RsR c.K F' H' [(.ref y, t)] (fun a => b2 a = none) := o2.reg fun a ha => by
    have q : b3 a = none := ha.1
    by_cases z : a = dy
    · subst z; exact nb a hdy
    · have : b3 a = b2 a := upd_ne z
      rw [← this]; exact q
  have S5 := back F' H' σ ⟨env1.vs, [(.ref y, t)]⟩ ⟨l4, S3.vr.mono f.ex, o3⟩
  exact hQ t env1 (.ref y) F' H' ht (f1.trans f) ⟨S5.le, S5.vr, S5.ow.perm (List.perm_append_comm (l₁ := env1.rs) (l₂ := [(.ref y, t)]))⟩
/-- o.f = e, a new field -/
theorem putF_new {f : Str} {v : V} : ∀ {ns : List Str} {us : List V}, ns.length = us.length → f ∉ ns → putF f v (ns.zip us) = (ns ++ [f]).zip (us ++ [v])
  | [], [], _, _ => rfl
  | n :: ns, u :: us, e, h => by
    have ih := putF_new (v := v) (f := f) (ns := ns) (us := us) (by simpa using e) fun z => h (List.mem_cons_of_mem _ z)
    have hn : n ≠ f := fun z => h (by rw [← z]; exact List.mem_cons_self)
    rw [List.zip_cons_cons]
    unfold putF
    rw [if_neg hn, ih]
    rfl
theorem s_field {o e : Expr} {f : Str} {pos pos' : Pos} {Ψ : Post} (h : E c N env e fun z env1 => E c N env1 o fun x env2 => ∃ w C ns os g, x = .raw w ∧ Res env2.rs w (.i C ns os) g ∧ Cls c.K C ∧ NoAttr c.K C f ∧ f ∉ ns ∧ ns.length < 1000 ∧ Ψ.nx ⟨env2.vs, g (.i C (ns ++ [f]) (os ++ [.s z]))⟩)
    (hs : ∀ env, swapsWith e (some (.Attribute o f pos')) pos.line env = pure false) : S1 c N env (.Assign [.Attribute o f pos'] e pos) Ψ := by
  intro X hX b F H σ S W tW xl D L
  refine (ps_fld pe_wp pe_wp (hs _)).wp ?_
  refine h X hX b F H σ S W tW xl _ fun z env1 v F1 H1 h1 f1 S1 r1 => ?_
  refine h1 X hX b F1 H1 σ S1 W tW (xl.fe f1) _ fun x env2 vx F2 H2 h2 f2 S2 r2 => ?_
  obtain ⟨w, C, ns, os, g, rfl, hr, hc, hn, hnew, hlt, hp⟩ := h2
  simp only [Rep] at r2
  have r2 : w = vx := r2.symm
  subst r2
  obtain ⟨rs', p1, p2⟩ := hr.ok
  obtain ⟨a1, u, A, rfl, hu, hf, sh, hk, go⟩ := S2.nodeW (ys := []) (rs' := rs') p1 rfl
  obtain ⟨dx, us, rfl, e0, e1⟩ := sh
  have e2 := e0.trans e1
  refine ⟨a1, C, dx, _, rfl, hu, by rw [hX.gK]; exact hc, by rw [hX.gK]; exact hn, by rw [List.length_zip, e2, Nat.min_self]; omega, ?_⟩
  rw [putF_new e2 hnew]
  rw [show kidsV (.ins C dx (ns.zip us)) = us from zip_snd e2] at hk
  simp only [O.kids, List.map_nil, List.append_nil] at hk
  have q := go (.i C (ns ++ [f]) (os ++ [.s z])) (.ins C dx ((ns ++ [f]).zip (us ++ [v]))) [] ⟨dx, _, rfl, by simp [e0], by simp [e1]⟩ (by
    rw [show kidsV (.ins C dx ((ns ++ [f]).zip (us ++ [v]))) = us ++ [v] from zip_snd (by simp [e2])]
    simp only [O.kids, List.map_nil, List.append_nil]
    exact Owns.app (B := fun _ => True) (hk.reg fun x hx => ⟨hx, True.intro⟩) (.cons (fun _ => True) (by simp only [Own]; exact f2.rep r1) .nil))
  exact L.nx _ σ F2 _ hp (f1.trans f2) ⟨q.le, q.vr, RsR.perm (p2 _) q.ow⟩
end
end Y
namespace Y
open PySem L2
theorem bf_len : Bf "len" (.builtin "len") := .fn (by decide +kernel)
theorem bf_abs : Bf "abs" (.builtin "abs") := .fn (by decide +kernel)
theorem bf_isinstance : Bf "isinstance" (.builtin "isinstance") := .fn (by decide +kernel)
theorem bf_all : Bf "all" (.builtin "all") := .fn (by decide +kernel)
theorem bf_any : Bf "any" (.builtin "any") := .fn (by decide +kernel)
theorem bf_sum : Bf "sum" (.builtin "sum") := .fn (by decide +kernel)
theorem bf_sorted : Bf "sorted" (.builtin "sorted") := .fn (by decide +kernel)
theorem bf_max : Bf "max" (.builtin "max") := .fn (by decide +kernel)
theorem bf_min : Bf "min" (.builtin "min") := .fn (by decide +kernel)
theorem bf_int : Bf "int" (.type "int") := .ty (by decide +kernel)
theorem bf_tuple : Bf "tuple" (.type "tuple") := .ty (by decide +kernel)
theorem bf_list : Bf "list" (.type "list") := .ty (by decide +kernel)
theorem bf_dict : Bf "dict" (.type "dict") := .ty (by decide +kernel)
theorem bt_int : bootBuiltins "int" = some (.type "int") := by decide +kernel
theorem bt_bool : bootBuiltins "bool" = some (.type "bool") := by decide +kernel
theorem bt_str : bootBuiltins "str" = some (.type "str") := by decide +kernel
theorem bt_tuple : bootBuiltins "tuple" = some (.type "tuple") := by decide +kernel
theorem bt_list : bootBuiltins "list" = some (.type "list") := by decide +kernel
theorem bt_dict : bootBuiltins "dict" = some (.type "dict") := by decide +kernel
section
variable {c : Ctx} {N : List Str} {env : Ev}
/-- a call without resources -/
theorem call0 {env : Ev} {S : Spec} {zs : List D} {Φ : O → Ev → Prop} {P2 : Value → Pay → Prop} (h : S zs [] (fun z rs' => Φ z ⟨env.vs, rs' ++ env.rs⟩) P2) : ∃ rs1 rs2, env.rs.Perm (rs1 ++ rs2) ∧ S zs rs1 (fun z rs' => Φ z ⟨env.vs, rs' ++ rs2⟩) P2 := ⟨[], env.rs, .refl _, h⟩
/-- a call with one -/
theorem call1 {env : Ev} {S : Spec} {zs : List D} {Φ : O → Ev → Prop} {P2 : Rs → Value → Pay → Prop} {w : V} {t : O} {rs : Rs} (ht : Tak env.rs w t rs) (h : S zs [(w, t)] (fun z rs' => Φ z ⟨env.vs, rs' ++ rs⟩) (P2 rs)) : ∃ rs1 rs2, env.rs.Perm (rs1 ++ rs2) ∧ S zs rs1 (fun z rs' => Φ z ⟨env.vs, rs' ++ rs2⟩) (P2 rs2) := ⟨[(w, t)], rs, ht.perm, h⟩
end
end Y
namespace Y
open PySem L2
/-! ### readings in short -/
section
variable {c : Ctx} {env : Ev}
theorem cz_abs {i : Int} {Φ : D → Prop} (h : Φ (.int i.natAbs)) : ∃ zs, Seens env [.int i] zs ∧ Cb c (.builtin "abs") zs Φ := ⟨_, .frs _, cb_abs (by
  have e : (if i < 0 then -i else i) = (i.natAbs : Int) := by omega
  rw [e]; exact h)⟩
theorem cz_int {i : Int} {Φ : D → Prop} (h : Φ (.int i)) : ∃ zs, Seens env [.int i] zs ∧ Cb c (.type "int") zs Φ := ⟨_, .frs _, cb_int h⟩
theorem cz_lenT {zs : List D} {Φ : D → Prop} (h : Φ (.int (zs.length : Nat))) : ∃ ys, Seens env [.tup zs] ys ∧ Cb c (.builtin "len") ys Φ := ⟨_, .frs _, cb_len_seq rfl h⟩
theorem cz_lenL {zs : List D} {Φ : D → Prop} (h : Φ (.int (zs.length : Nat))) : ∃ ys, Seens env [.lst zs] ys ∧ Cb c (.builtin "len") ys Φ := ⟨_, .frs _, cb_len_seq rfl h⟩
theorem fz_l (os : List O) : (O.l os).fz = .lst (O.fzs os) := by simp only [O.fz]
theorem fz_d (ks : List (List Key)) (os : List O) : (O.d ks os).fz = .dic ks (O.fzs os) := by simp only [O.fz]
theorem fz_kd (ob : Obj) (us : List V) (ks : List (List Key)) (os : List O) : (O.kd ob us ks os).fz = .dic ks (O.fzs os) := by simp only [O.fz]
theorem fz_s (d : D) : (O.s d).fz = d := by simp only [O.fz]
theorem seen_l {w : V} {os : List O} {f : O → Rs} (h : Res env.rs w (.l os) f) : Seen env (.raw w) (.lst (O.fzs os)) := by rw [← fz_l]; exact .rs h
theorem seen_d {w : V} {ks : List (List Key)} {os : List O} {f : O → Rs} (h : Res env.rs w (.d ks os) f) : Seen env (.raw w) (.dic ks (O.fzs os)) := by rw [← fz_d]; exact .rs h
theorem seen_kd {w : V} {ob : Obj} {us : List V} {ks : List (List Key)} {os : List O} {f : O → Rs} (h : Res env.rs w (.kd ob us ks os) f) : Seen env (.raw w) (.dic ks (O.fzs os)) := by rw [← fz_kd]; exact .rs h
theorem cz_lenR {w : V} {os : List O} {f : O → Rs} {Φ : D → Prop} (hr : Res env.rs w (.l os) f) (h : Φ (.int (os.length : Nat))) : ∃ ys, Seens env [.raw w] ys ∧ Cb c (.builtin "len") ys Φ :=
  ⟨_, .cons (seen_l hr) .nil, cb_len_seq rfl (by rw [O.fzs_length]; exact h)⟩
theorem cz_lenD {w : V} {ks : List (List Key)} {os : List O} {f : O → Rs} {Φ : D → Prop} (hr : Res env.rs w (.d ks os) f) (h : Φ (.int (ks.length : Nat))) : ∃ ys, Seens env [.raw w] ys ∧ Cb c (.builtin "len") ys Φ :=
  ⟨_, .cons (seen_d hr) .nil, cb_len_dic h⟩
theorem cz_isi {z : D} {t T : String} {r : Bool} {Φ : D → Prop} (e : tyD z = some t) (hk : kitB t T = some r) (h : Φ (.bl r)) : ∃ ys, Seens env [z, .raw (.ty T)] ys ∧ Cb c (.builtin "isinstance") ys Φ :=
  ⟨_, .frs _, cb_isi e (.ty T) (kit_ty hk) h⟩
theorem cz_all {zs : List D} {bs : List Bool} {Φ : D → Prop} (e : zs = bs.map D.bl) (h : Φ (.bl (bs.all id))) : ∃ ys, Seens env [.lst zs] ys ∧ Cb c (.builtin "all") ys Φ := by subst e; exact ⟨_, .frs _, cb_all h⟩
theorem cz_any {zs : List D} {bs : List Bool} {Φ : D → Prop} (e : zs = bs.map D.bl) (h : Φ (.bl (bs.any id))) : ∃ ys, Seens env [.lst zs] ys ∧ Cb c (.builtin "any") ys Φ := by subst e; exact ⟨_, .frs _, cb_any h⟩
end

/-! ### numbers -/
/-- not too wide -/
def Sz (n : Nat) (i : Int) : Prop := i.natAbs < 2 ^ n
theorem Sz.mono {n m : Nat} {i : Int} (h : Sz n i) (l : n ≤ m) : Sz m i := Nat.lt_of_lt_of_le h (Nat.pow_le_pow_right (by decide) l)
theorem Sz.add {n m : Nat} {i j : Int} (h : Sz n i) (g : Sz m j) : Sz (max n m + 1) (i + j) := by
  have h1 : Sz (max n m) i := h.mono (Nat.le_max_left _ _)
  have h2 : Sz (max n m) j := g.mono (Nat.le_max_right _ _)
  unfold Sz at *
  rw [Nat.pow_succ]
  omega
theorem Sz.neg {n : Nat} {i : Int} (h : Sz n i) : Sz n (-i) := by unfold Sz at *; rw [Int.natAbs_neg]; exact h
theorem Sz.sub {n m : Nat} {i j : Int} (h : Sz n i) (g : Sz m j) : Sz (max n m + 1) (i - j) := by rw [Int.sub_eq_add_neg]; exact h.add g.neg
theorem Sz.mul {n m : Nat} {i j : Int} (h : Sz n i) (g : Sz m j) : Sz (n + m) (i * j) := by
  unfold Sz at *
  rw [Int.natAbs_mul, Nat.pow_add]
  exact Nat.mul_lt_mul'' h g
theorem Sz.of_le {n : Nat} {i j : Int} (h : Sz n i) (l : j.natAbs ≤ i.natAbs) : Sz n j := Nat.lt_of_le_of_lt l h
theorem op_mulS {c : Ctx} {n m : Nat} {i j : Int} {Φ : D → Prop} (hi : Sz n i) (hj : Sz m j) (hs : n + m ≤ 900000) (h : Φ (.int (i * j))) : Op2 c (binaryOp .Mult) (.int i) (.int j) Φ :=
  op_mulW (a := n + 1) (d := m + 1) (hi.mono (Nat.le_succ _)) (hj.mono (Nat.le_succ _)) (by omega) (by omega) (by omega) h
/-! ### fractions as the text holds them -/
def fr (q : Rat) : D := .tup [.int q.num, .int (q.den : Nat)]
def Qz (n : Nat) (q : Rat) : Prop := Sz n q.num ∧ q.den < 2 ^ n
theorem Qz.mono {n m : Nat} {q : Rat} (h : Qz n q) (l : n ≤ m) : Qz m q := ⟨h.1.mono l, Nat.lt_of_lt_of_le h.2 (Nat.pow_le_pow_right (by decide) l)⟩
theorem Qz.den {n : Nat} {q : Rat} (h : Qz n q) : Sz n (q.den : Int) := by unfold Sz; rw [Int.natAbs_natCast]; exact h.2
theorem divInt_Qz {t b : Int} {n m : Nat} (hb : 0 < b) (h1 : Sz n t) (h2 : Sz m b) (l : n ≤ m) : Qz m (Rat.divInt t b) := by
  constructor
  · rw [Rat.num_divInt, Int.sign_eq_one_of_pos hb, Int.one_mul]
    refine (h1.mono l).of_le ?_
    rw [Int.natAbs_ediv_of_dvd (Int.gcd_dvd_right _ _)]
    exact Nat.div_le_self _ _
  · rw [Rat.den_divInt, if_neg (by omega)]
    exact Nat.lt_of_le_of_lt (Nat.div_le_self _ _) h2
theorem add_eq (p q : Rat) : p + q = Rat.divInt (p.num * (q.den : Int) + q.num * (p.den : Int)) ((p.den : Int) * (q.den : Int)) := by
  rw [← Rat.divInt_add_divInt _ _ (by have := p.den_nz; omega) (by have := q.den_nz; omega), Rat.num_divInt_den, Rat.num_divInt_den]
theorem sub_eq (p q : Rat) : p - q = Rat.divInt (p.num * (q.den : Int) - q.num * (p.den : Int)) ((p.den : Int) * (q.den : Int)) := by
  rw [Rat.sub_eq_add_neg, add_eq, Rat.neg_num, Rat.neg_den, Int.neg_mul, Int.sub_eq_add_neg]
theorem pos_den (q : Rat) : (0 : Int) < (q.den : Int) := by have := q.den_nz; omega
theorem Qz.add {n m : Nat} {p q : Rat} (h : Qz n p) (g : Qz m q) : Qz (n + m + 1) (p + q) := by
  rw [add_eq]
  refine divInt_Qz (Int.mul_pos (pos_den p) (pos_den q)) (n := n + m + 1) ?_ ((h.den.mul g.den).mono (by omega)) (Nat.le_refl _)
  exact ((h.1.mul g.den).add (g.1.mul h.den)).mono (by omega)
theorem Qz.neg {n : Nat} {q : Rat} (h : Qz n q) : Qz n (-q) := ⟨by rw [Rat.neg_num]; exact h.1.neg, by rw [Rat.neg_den]; exact h.2⟩
theorem Qz.sub {n m : Nat} {p q : Rat} (h : Qz n p) (g : Qz m q) : Qz (n + m + 1) (p - q) := by rw [Rat.sub_eq_add_neg]; exact h.add g.neg
/-! units -/
abbrev Un := List Rat
def un (u : Un) : D := .tup (u.map fr)
def Uz (n : Nat) (u : Un) : Prop := ∀ q ∈ u, Qz n q
def uAdd (u v : Un) : Un := List.zipWith (· + ·) u v
def uSub (u v : Un) : Un := List.zipWith (· - ·) u v
def u0 (b : Nat) : Un := List.replicate b 0
theorem uAdd_len {u v : Un} (h : u.length = v.length) : (uAdd u v).length = u.length := by simp [uAdd, h]
theorem uSub_len {u v : Un} (h : u.length = v.length) : (uSub u v).length = u.length := by simp [uSub, h]
theorem imm_fr (q : Rat) : (fr q).imm = true := by simp only [fr, D.imm, D.imms, Bool.and_self]
theorem imms_map {α : Type} {f : α → D} (h : ∀ x, (f x).imm = true) : ∀ l : List α, D.imms (l.map f) = true
  | [] => by simp only [List.map_nil, D.imms]
  | x :: l => by simp only [List.map_cons, D.imms, h x, imms_map h l, Bool.and_self]
theorem imm_un (u : Un) : (un u).imm = true := by simp only [un, D.imm, imms_map imm_fr]
theorem plain_fr (q : Rat) : (fr q).plain = true := by simp only [fr, D.plain, D.plains, Bool.and_self]
theorem plains_map {α : Type} {f : α → D} (h : ∀ x, (f x).plain = true) : ∀ l : List α, D.plains (l.map f) = true
  | [] => by simp only [List.map_nil, D.plains]
  | x :: l => by simp only [List.map_cons, D.plains, h x, plains_map h l, Bool.and_self]
theorem plain_un (u : Un) : (un u).plain = true := by simp only [un, D.plain, plains_map plain_fr]
theorem fr_inj {p q : Rat} (h : fr p = fr q) : p = q := by
  simp only [fr, D.tup.injEq, List.cons.injEq, D.int.injEq, and_true] at h
  have h2 : p.den = q.den := by have := h.2; omega
  exact Rat.ext h.1 h2
theorem Uz.mono {n m : Nat} {u : Un} (h : Uz n u) (l : n ≤ m) : Uz m u := fun q hq => (h q hq).mono l
theorem Uz.add {n m : Nat} : ∀ {u v : Un}, Uz n u → Uz m v → Uz (n + m + 1) (uAdd u v)
  | [], v, h, g => by intro q hq; simp [uAdd] at hq
  | a :: u, [], h, g => by intro q hq; simp [uAdd] at hq
  | a :: u, b :: v, h, g => by
    intro q hq
    rcases List.mem_cons.mp (show q ∈ (a + b) :: uAdd u v from hq) with rfl | hq
    · exact (h a List.mem_cons_self).add (g b List.mem_cons_self)
    · exact Uz.add (fun q m => h q (List.mem_cons_of_mem _ m)) (fun q m => g q (List.mem_cons_of_mem _ m)) q hq
theorem Uz.sub {n m : Nat} : ∀ {u v : Un}, Uz n u → Uz m v → Uz (n + m + 1) (uSub u v)
  | [], v, h, g => by intro q hq; simp [uSub] at hq
  | a :: u, [], h, g => by intro q hq; simp [uSub] at hq
  | a :: u, b :: v, h, g => by
    intro q hq
    rcases List.mem_cons.mp (show q ∈ (a - b) :: uSub u v from hq) with rfl | hq
    · exact (h a List.mem_cons_self).sub (g b List.mem_cons_self)
    · exact Uz.sub (fun q m => h q (List.mem_cons_of_mem _ m)) (fun q m => g q (List.mem_cons_of_mem _ m)) q hq
end Y
namespace Y
open L2
theorem kb_ii : kitB "int" "int" = some true := by decide +kernel
theorem kb_ib : kitB "int" "bool" = some false := by decide +kernel
theorem kb_tt : kitB "tuple" "tuple" = some true := by decide +kernel
theorem kb_ti : kitB "tuple" "int" = some false := by decide +kernel
theorem kb_nt : kitB "NoneType" "tuple" = some false := by decide +kernel
theorem kb_ni : kitB "NoneType" "int" = some false := by decide +kernel
theorem kb_it : kitB "int" "tuple" = some false := by decide +kernel
theorem kb_bi : kitB "bool" "int" = some true := by decide +kernel
theorem kb_bb : kitB "bool" "bool" = some true := by decide +kernel
theorem kb_bt : kitB "bool" "tuple" = some false := by decide +kernel
theorem kb_lt : kitB "list" "tuple" = some false := by decide +kernel
theorem kb_li : kitB "list" "int" = some false := by decide +kernel
theorem kb_st : kitB "str" "tuple" = some false := by decide +kernel
theorem kb_si : kitB "str" "int" = some false := by decide +kernel
theorem kb_ss : kitB "str" "str" = some true := by decide +kernel
theorem kb_nd : kitB "NoneType" "dict" = some false := by decide +kernel
end Y
namespace Y
open PySem L2
theorem gcd_pos {t b : Int} (hb : 0 < b) : (0 : Int) < (Int.gcd t b : Nat) := by
  have : 0 < Int.gcd t b := Int.gcd_pos_of_ne_zero_right _ (by omega)
  omega
theorem gcd_small {t b : Int} {n : Nat} (hb : 0 < b) (h : Sz n b) (hn : n ≤ 4000) : ((Int.gcd t b : Nat) : Int) < 2 ^ 4000 := by
  have h1 : Int.gcd t b ≤ b.natAbs := Nat.le_of_dvd (by omega) (Int.gcd_dvd_natAbs_right t b)
  have h2 : Int.gcd t b < 2 ^ 4000 := Nat.lt_of_le_of_lt h1 (h.mono hn)
  have h3 := Int.ofNat_lt.mpr h2
  rw [Int.natCast_pow] at h3
  exact h3
theorem fr_divInt {t b : Int} (hb : 0 < b) : fr (Rat.divInt t b) = .tup [.int (t / (Int.gcd t b : Nat)), .int (b / (Int.gcd t b : Nat))] := by
  unfold fr
  rw [Rat.num_divInt, Rat.den_divInt, if_neg (by omega), Int.sign_eq_one_of_pos hb, Int.one_mul, Int.gcd_comm b t]
  congr 4
  have h0 : b.natAbs = b.toNat := by omega
  rw [Int.natCast_ediv]
  congr 1
  omega
end Y
namespace Y
open PySem L2
section
variable {c : Ctx} {N : List Str}
theorem take_snoc {α : Type} {l : List α} {k : Nat} {y : α} (h : l[k]? = some y) : l.take (k + 1) = l.take k ++ [y] := by rw [List.take_add_one, h]; rfl
/-- [elt for tg in ..], each item told beforehand; what the block needs stands still -/
theorem lc_told {elt tg : Expr} {scope : Scope} {own : List (Str × Nat)} {zs : List D} {cond : Ev → Prop} {env1 : Ev} {Φ : O → Ev → Prop} (ys : List D) (hl : ys.length = zs.length) (hz : zs.length ≤ 1000000) (hc : ∀ vs w os, cond ⟨vs, (w, .l os) :: env1.rs⟩)
    (ht : ∀ (k : Nat) (z y : D), zs[k]? = some z → ys[k]? = some y → ∃ l, Bd N scope.names tg z l ∧ (∀ p ∈ l, p.1 ∈ own.map (·.2)) ∧ E (c.blk scope) N ⟨setsD (wipeV env1.vs (own.map (·.2))) l, env1.rs⟩ elt fun y' env3 => y' = y ∧ env3.rs = env1.rs) (hΦ : Φ (.l (ys.map O.s)) env1) :
    ∃ I : Nat → List O → Rs → Prop, I 0 [] env1.rs ∧ (∀ k os rs, I k os rs → ∀ w vs, cond ⟨vs, (w, .l os) :: rs⟩) ∧ zs.length ≤ 1000000 ∧
      (∀ k z os rs, zs[k]? = some z → os.length ≤ k → I k os rs → LcTurn (c.blk scope) N env1.vs (own.map (·.2)) tg elt [] z rs (I (k + 1) os) (fun y rs' => I (k + 1) (os ++ [y]) rs')) ∧ (∀ os rs, os.length ≤ zs.length → I zs.length os rs → Φ (.l os) ⟨env1.vs, rs⟩) := by
  refine ⟨fun k os rs => os = (ys.take k).map O.s ∧ rs = env1.rs, ⟨by simp, rfl⟩, fun k os rs h w vs => ?_, hz, fun k z os rs hk _ h => ?_, fun os rs _ h => ?_⟩
  · obtain ⟨_, rfl⟩ := h; exact hc vs w os
  · obtain ⟨rfl, rfl⟩ := h
    have hk2 : k < ys.length := by rw [hl]; exact (List.getElem?_eq_some_iff.mp hk).1
    have ey : ys[k]? = some ys[k] := List.getElem?_eq_getElem hk2
    obtain ⟨l, b1, b2, he⟩ := ht k z _ hk ey
    refine ⟨l, b1, b2, ts_nil ⟨fun h => (nomatch h), fun _ => ?_⟩⟩
    refine E.toO (he.mono fun y' env3 h => ?_)
    obtain ⟨rfl, e⟩ := h
    exact ⟨by rw [take_snoc ey, List.map_append]; rfl, e⟩
  · obtain ⟨rfl, rfl⟩ := h
    rw [← hl, List.take_length]
    exact hΦ

theorem IT.mono {env : Ev} {tg iter : Expr} {Φ Φ' : List D → (Ev → Prop) → Ev → Prop} (h : IT c N env tg iter Φ) (hm : ∀ zs cond env1, Φ zs cond env1 → Φ' zs cond env1) : IT c N env tg iter Φ' :=
  fun X hX b F H σ S W tW xl Rr hR => h X hX b F H σ S W tW xl Rr fun zs cond env' J F' H' p => hR zs cond env' J F' H' (hm _ _ _ p)
/-- each item told beforehand; what the block needs stands still -/
def Told (c : Ctx) (N : List Str) (elt tg : Expr) (scope : Scope) (own : List (Str × Nat)) (Φ : List D → Ev → Prop) : List D → (Ev → Prop) → Ev → Prop := fun zs cond env1 =>
  ∃ ys : List D, ys.length = zs.length ∧ zs.length ≤ 1000000 ∧ (∀ vs w os, cond ⟨vs, (w, .l os) :: env1.rs⟩) ∧
    (∀ (k : Nat) (z y : D), zs[k]? = some z → ys[k]? = some y → ∃ l, Bd N scope.names tg z l ∧ (∀ p ∈ l, p.1 ∈ own.map (·.2)) ∧ E (c.blk scope) N ⟨setsD (wipeV env1.vs (own.map (·.2))) l, env1.rs⟩ elt fun y' env3 => y' = y ∧ env3.rs = env1.rs) ∧ Φ ys env1
theorem e_lcT {env : Ev} {elt tg iter : Expr} {scope : Scope} {pos : Pos} {Φ : D → Ev → Prop} (own : List (Str × Nat)) (hb : blkN N c.nm scope own = true) (h : IT c N env tg iter (Told c N elt tg scope own fun ys => Φ (.lst ys)))
    (hs : ∀ env x, foldedSetIterable iter env x = pure x) : E c N env (.ListComp elt [⟨tg, iter, [], 0⟩] scope pos) Φ := by
  refine EO.toE (eo_lc own hb (Φ := fun t env1 => Φ t.fz env1) (IT.mono h fun zs cond env1 h => ?_) hs)
  obtain ⟨ys, h1, h2, h3, h4, h5⟩ := h
  have e : (O.l (ys.map O.s)).fz = .lst ys := by simp only [O.fz, fzs_map]
  exact lc_told (c := c) (N := N) (Φ := fun t env1 => Φ t.fz env1) ys h1 h2 h3 h4 (by show Φ (O.l (ys.map O.s)).fz env1; rw [e]; exact h5)
theorem map_get {α β : Type} {f : α → β} {l : List α} {k : Nat} {y : β} (h : (l.map f)[k]? = some y) : ∃ x, l[k]? = some x ∧ y = f x := by
  rw [List.getElem?_map] at h
  obtain ⟨x, h1, h2⟩ := Option.map_eq_some_iff.mp h
  exact ⟨x, h1, h2.symm⟩
theorem zipWith_get {α β γ : Type} {f : α → β → γ} {l : List α} {m : List β} {k : Nat} {y : γ} (h : (List.zipWith f l m)[k]? = some y) : ∃ a b, l[k]? = some a ∧ m[k]? = some b ∧ y = f a b := by
  rw [List.getElem?_zipWith] at h
  cases ha : l[k]? with
  | none => rw [ha] at h; simp at h
  | some a =>
    cases hb : m[k]? with
    | none => rw [ha, hb] at h; simp at h
    | some b => rw [ha, hb] at h; simp at h; exact ⟨a, b, rfl, rfl, h.symm⟩
theorem zipD_fr {u v : Un} {k : Nat} {z : D} (h : (zipD (u.map fr) (v.map fr))[k]? = some z) : ∃ a b, u[k]? = some a ∧ v[k]? = some b ∧ z = .tup [fr a, fr b] := by
  obtain ⟨x, y, h1, h2, rfl⟩ := zipD_get h
  obtain ⟨a, ha, rfl⟩ := map_get h1
  obtain ⟨b, hb, rfl⟩ := map_get h2
  exact ⟨a, b, ha, hb, rfl⟩
theorem zipD_len (xs ys : List D) : (zipD xs ys).length = min xs.length ys.length := by simp [zipD]
theorem zipW_at {f : Rat → Rat → Rat} {u v : Un} {k : Nat} {a b : Rat} {y : D} (h : ((List.zipWith f u v).map fr)[k]? = some y) (ha : u[k]? = some a) (hb : v[k]? = some b) : y = fr (f a b) := by
  obtain ⟨x, hx, rfl⟩ := map_get h
  obtain ⟨a', b', h1, h2, rfl⟩ := zipWith_get hx
  rw [ha] at h1; rw [hb] at h2
  cases h1; cases h2; rfl
theorem Uz.at {n : Nat} {u : Un} (h : Uz n u) {k : Nat} {a : Rat} (e : u[k]? = some a) : Qz n a := h a (List.mem_of_getElem? e)
end
end Y
namespace Y
open PySem L2
section
variable {c : Ctx} {N : List Str} {env : Ev} {Φ : List D → (Ev → Prop) → Ev → Prop} {elts : List Expr} {kk : Nat} {tpos : Pos}
/-- enumerate(..) of a tuple or a list that stands still -/
theorem it_enumL {e : Expr} {p pos : Pos} (hm : c.g.mg "enumerate" = none) (hk : Kn c.nm "enumerate" .globalImplicit) (h : E c N env e fun z env1 => ∃ zs, z = .lst zs ∧ Φ (enumD zs) (fun _ => True) env1) (hs : ∀ env, starEach [e] env = [(false, eval e env)]) : IT c N env (.Tuple elts kk tpos) (.Call (.Name "enumerate" p) [e] [] pos) Φ := by
  intro X hX b F H σ S W tW xl Rr hR
  refine (pi_enum (hX.gl hk) (by rw [hX.gmg]; exact hm) (pa_cons pe_wp pa_nil (hs _)) (hs _)).wp ?_
  refine h X hX b F H σ S W tW xl _ fun z env1 v F1 H1 h1 f1 S1 r1 => ?_
  obtain ⟨zs, rfl, hz⟩ := h1
  simp only [Rep] at r1
  obtain ⟨a, vs, rfl, g1, g2⟩ := r1
  refine ⟨a, vs, rfl, by rw [hX.gK]; exact S1.wf.ex.sqL g1, hR _ _ env1 _ F1 H1 hz f1 S1 ⟨fun i u eu b F H σ env S f _ => ?_, fun b F H σ env S f _ => ?_⟩⟩
  · obtain ⟨z, ez, rfl⟩ := enumD_get eu
    obtain ⟨v, e1, r⟩ := g2.get ez
    have sq : SqL X.K H a vs := by rw [hX.gK]; exact S.wf.ex.sqL (f.ex.sqL g1)
    refine ⟨⟨vs, v, sq, e1⟩, fun x H' y => ?_⟩
    obtain ⟨T, x', rfl, hT, rfl, y⟩ := y
    have := y vs sq
    rw [e1] at this
    cases this
    obtain ⟨l, r'⟩ := rep_pair (x := .int (i : Nat)) (vx := .int (i : Nat)) S.wf hT (by simp only [Rep]) (f.rep r)
    exact ⟨_, l, r'⟩
  · exact ⟨vs, by rw [hX.gK]; exact S.wf.ex.sqL (f.ex.sqL g1), by rw [enumD_length, g2.length]; exact Nat.le_refl _⟩
end
end Y
namespace Y
open PySem L2
/-! ### targets in short -/
section
variable {N : List Str} {nm : List (Str × NameKind)}
theorem bd_1 {x : Str} {i : Nat} {k : NameKind} {z : D} {pos : Pos} (hi : Ix N x i) (hk : Kn nm x k) (hv : locK k = true) : Bd N nm (.Name x pos) z [(i, z)] := .name hi.ok hk hv
theorem bd_2 {x y : Str} {i j : Nat} {k k' : NameKind} {a b : D} {n : Nat} {px py pos : Pos} (hi : Ix N x i) (hk : Kn nm x k) (hv : locK k = true) (hj : Ix N y j) (hk' : Kn nm y k') (hv' : locK k' = true) : Bd N nm (.Tuple [.Name x px, .Name y py] n pos) (.tup [a, b]) [(i, a), (j, b)] :=
  .tup (.cons (.name hi.ok hk hv) (.cons (.name hj.ok hk' hv') .nil (by intro _; rfl)) (by intro _; rfl)) (by intro _; rfl) (by intro _; rfl)
theorem bd_3 {x y u : Str} {i j l : Nat} {k k' k'' : NameKind} {a b d : D} {n : Nat} {px py pu pos : Pos} (hi : Ix N x i) (hk : Kn nm x k) (hv : locK k = true) (hj : Ix N y j) (hk' : Kn nm y k') (hv' : locK k' = true) (hl : Ix N u l) (hk'' : Kn nm u k'') (hv'' : locK k'' = true) : Bd N nm (.Tuple [.Name x px, .Name y py, .Name u pu] n pos) (.tup [a, b, d]) [(i, a), (j, b), (l, d)] :=
  .tup (.cons (.name hi.ok hk hv) (.cons (.name hj.ok hk' hv') (.cons (.name hl.ok hk'' hv'') .nil (by intro _; rfl)) (by intro _; rfl)) (by intro _; rfl)) (by intro _; rfl) (by intro _; rfl)
end
end Y
namespace Y
open PySem L2
/-! ### units of so many bases -/
def uNeg (u : Un) : Un := u.map (- ·)
def U (b : Nat) := {u : Un // u.length = b}
namespace U
variable {b : Nat}
instance : Add (U b) := ⟨fun u v => ⟨uAdd u.1 v.1, by simp [uAdd, u.2, v.2]⟩⟩
instance : Sub (U b) := ⟨fun u v => ⟨uSub u.1 v.1, by simp [uSub, u.2, v.2]⟩⟩
instance : Neg (U b) := ⟨fun u => ⟨uNeg u.1, by simp [uNeg, u.2]⟩⟩
instance : Zero (U b) := ⟨⟨u0 b, by simp [u0]⟩⟩
instance : DecidableEq (U b) := inferInstanceAs (DecidableEq {u : Un // u.length = b})
def at' (u : U b) (i : Nat) : Rat := u.1.getD i 0
theorem ext' {u v : U b} (h : ∀ i, i < b → u.at' i = v.at' i) : u = v := by
  obtain ⟨u, hu⟩ := u
  obtain ⟨v, hv⟩ := v
  congr 1
  apply List.ext_getElem (by omega)
  intro i h1 h2
  have := h i (by omega)
  simp only [at'] at this
  rw [List.getD_eq_getElem?_getD, List.getD_eq_getElem?_getD, List.getElem?_eq_getElem h1, List.getElem?_eq_getElem h2] at this
  simpa using this
theorem at_add (u v : U b) (i : Nat) (h : i < b) : (u + v).at' i = u.at' i + v.at' i := by
  obtain ⟨u, hu⟩ := u
  obtain ⟨v, hv⟩ := v
  show (uAdd u v).getD i 0 = u.getD i 0 + v.getD i 0
  simp [uAdd, List.getD_eq_getElem?_getD, List.getElem?_zipWith, List.getElem?_eq_getElem (show i < u.length by omega), List.getElem?_eq_getElem (show i < v.length by omega)]
theorem at_sub (u v : U b) (i : Nat) (h : i < b) : (u - v).at' i = u.at' i - v.at' i := by
  obtain ⟨u, hu⟩ := u
  obtain ⟨v, hv⟩ := v
  show (uSub u v).getD i 0 = u.getD i 0 - v.getD i 0
  simp [uSub, List.getD_eq_getElem?_getD, List.getElem?_zipWith, List.getElem?_eq_getElem (show i < u.length by omega), List.getElem?_eq_getElem (show i < v.length by omega)]
theorem at_neg (u : U b) (i : Nat) (h : i < b) : (-u).at' i = - u.at' i := by
  obtain ⟨u, hu⟩ := u
  show (uNeg u).getD i 0 = - u.getD i 0
  simp [uNeg, List.getD_eq_getElem?_getD, List.getElem?_eq_getElem (show i < u.length by omega)]
theorem at_zero (i : Nat) (h : i < b) : (0 : U b).at' i = 0 := by
  show (u0 b).getD i 0 = 0
  simp [u0, List.getD_eq_getElem?_getD, h]
def sc (q : Rat) (u : U b) : U b := ⟨u.1.map (q * ·), by simp [u.2]⟩
theorem at_sc (q : Rat) (u : U b) (i : Nat) (h : i < b) : (sc q u).at' i = q * u.at' i := by
  obtain ⟨u, hu⟩ := u
  show (u.map (q * ·)).getD i 0 = q * u.getD i 0
  simp [List.getD_eq_getElem?_getD, List.getElem?_eq_getElem (show i < u.length by omega)]
instance : SMul Nat (U b) := ⟨fun n u => sc n u⟩
instance : SMul Int (U b) := ⟨fun n u => sc n u⟩
theorem at_ns (n : Nat) (u : U b) (i : Nat) (h : i < b) : (n • u).at' i = n * u.at' i := at_sc _ u i h
theorem at_zs (n : Int) (u : U b) (i : Nat) (h : i < b) : (n • u).at' i = n * u.at' i := at_sc _ u i h
instance : Lean.Grind.AddCommGroup (U b) where
  add_zero u := ext' fun i h => by rw [at_add _ _ _ h, at_zero _ h]; grind
  add_comm u v := ext' fun i h => by rw [at_add _ _ _ h, at_add _ _ _ h]; grind
  add_assoc u v w := ext' fun i h => by simp only [at_add _ _ _ h]; grind
  neg_add_cancel u := ext' fun i h => by rw [at_add _ _ _ h, at_zero _ h, at_neg _ _ h]; grind
  sub_eq_add_neg u v := ext' fun i h => by rw [at_add _ _ _ h, at_sub _ _ _ h, at_neg _ _ h]; grind
instance : Lean.Grind.IntModule (U b) where
  zero_zsmul u := ext' fun i h => by rw [at_zs _ _ _ h, at_zero _ h]; simp
  one_zsmul u := ext' fun i h => by rw [at_zs _ _ _ h]; simp
  add_zsmul n m u := ext' fun i h => by rw [at_zs _ _ _ h, at_add _ _ _ h, at_zs _ _ _ h, at_zs _ _ _ h, Rat.intCast_add]; grind
  zsmul_natCast_eq_nsmul n u := ext' fun i h => by rw [at_zs _ _ _ h, at_ns _ _ _ h, Rat.intCast_natCast]
instance : Lean.Grind.NoNatZeroDivisors (U b) where
  no_nat_zero_divisors k u v hk e := ext' fun i h => by
    have := congrArg (fun w => at' w i) e
    simp only [at_ns _ _ _ h] at this
    have hk' : (k : Rat) ≠ 0 := by simpa using hk
    grind
end U
/-! ### grids of ties -/
abbrev GR (b : Nat) := List (List (Option (U b)))
abbrev Pr := Nat × Nat
section
variable {b : Nat}
def tie (R : GR b) (p q : Nat) : Option (U b) := ((R[p]?.getD [])[q]?).join
structure Sq (R : GR b) (m : Nat) : Prop where
  len : R.length = m
  row : ∀ r ∈ R, r.length = m
theorem tie_lt {R : GR b} {m p q : Nat} {a : U b} (s : Sq R m) (h : tie R p q = some a) : p < m ∧ q < m := by
  unfold tie at h
  cases e : R[p]? with
  | none => rw [e] at h; simp at h
  | some r =>
    rw [e] at h
    simp only [Option.getD_some] at h
    have hp := (List.getElem?_eq_some_iff.mp e).1
    have hr := s.row r (List.mem_of_getElem? e)
    cases e2 : r[q]? with
    | none => rw [e2] at h; simp at h
    | some x =>
      have hq := (List.getElem?_eq_some_iff.mp e2).1
      exact ⟨by rw [← s.len]; exact hp, by rw [← hr]; exact hq⟩
inductive Led (R : GR b) : Pr → Pr → U b → Prop
  | mk {p q p' q' : Nat} {a c : U b} : tie R p p' = some a → tie R q q' = some c → Led R (p, q) (p', q') (a - c)
inductive Ahd (R : GR b) (m : Nat) : Pr → U b → Prop
  | base {p : Nat} : p < m → Ahd R m (p, p) 0
  | step {x y : Pr} {w d : U b} : Ahd R m x w → Led R x y d → Ahd R m y (w + d)
inductive Mtg (R : GR b) (m : Nat) : Pr → Prop
  | base {p : Nat} : p < m → Mtg R m (p, p)
  | step {x y : Pr} {d : U b} : Led R x y d → Mtg R m y → Mtg R m x
def Uniq (R : GR b) (m : Nat) : Prop := ∀ x w w', Mtg R m x → Ahd R m x w → Ahd R m x w' → w = w'
theorem Led.lt {R : GR b} {m : Nat} {x y : Pr} {d : U b} (s : Sq R m) (h : Led R x y d) : (x.1 < m ∧ x.2 < m) ∧ y.1 < m ∧ y.2 < m := by
  cases h with
  | mk h1 h2 => exact ⟨⟨(tie_lt s h1).1, (tie_lt s h2).1⟩, (tie_lt s h1).2, (tie_lt s h2).2⟩
theorem Ahd.lt {R : GR b} {m : Nat} {x : Pr} {w : U b} (s : Sq R m) (h : Ahd R m x w) : x.1 < m ∧ x.2 < m := by
  cases h with
  | base h => exact ⟨h, h⟩
  | step _ l => exact (l.lt s).2
theorem Mtg.lt {R : GR b} {m : Nat} {x : Pr} (s : Sq R m) (h : Mtg R m x) : x.1 < m ∧ x.2 < m := by
  cases h with
  | base h => exact ⟨h, h⟩
  | step l _ => exact (l.lt s).1
theorem Led.turn {R : GR b} {p q p' q' : Nat} {d : U b} (h : Led R (p, q) (p', q') d) : Led R (q, p) (q', p') (-d) := by
  cases h with
  | mk h1 h2 => 
    rename_i a c
    have e : -(a - c) = c - a := by grind
    rw [e]; exact .mk h2 h1
theorem Ahd.turn' {R : GR b} {m : Nat} {x : Pr} {w : U b} (h : Ahd R m x w) : Ahd R m (x.2, x.1) (-w) := by
  induction h with
  | base h => 
    have e : -(0 : U b) = 0 := by grind
    rw [e]; exact .base h
  | step _ l ih =>
    rename_i x y w d _
    obtain ⟨p, q⟩ := x
    obtain ⟨p', q'⟩ := y
    have e : -(w + d) = -w + -d := by grind
    rw [e]; exact .step ih l.turn
theorem Mtg.turn' {R : GR b} {m : Nat} {x : Pr} (h : Mtg R m x) : Mtg R m (x.2, x.1) := by
  induction h with
  | base h => exact .base h
  | step l _ ih =>
    rename_i x y d _
    obtain ⟨p, q⟩ := x
    obtain ⟨p', q'⟩ := y
    exact .step l.turn ih
/-- the dict that is due -/
structure Due (R : GR b) (m : Nat) (ks : List Pr) (vs : List (U b)) : Prop where
  len : ks.length = vs.length
  nodup : ks.Nodup
  sound : ∀ (i : Nat) (k : Pr) (v : U b), ks[i]? = some k → vs[i]? = some v → Ahd R m k v ∧ Mtg R m k
  full : ∀ k w, Ahd R m k w → Mtg R m k → k ∈ ks
/-- the value of a key -/
def dv {α : Type} (ks : List Pr) (vs : List α) (k : Pr) : Option α := ((ks.zip vs).find? fun p => decide (p.1 = k)).map (·.2)
theorem dv_mem {α : Type} : ∀ {ks : List Pr} {vs : List α} {k : Pr}, ks.length = vs.length → k ∈ ks → ∃ (i : Nat) (v : α), ks[i]? = some k ∧ vs[i]? = some v
  | [], vs, k, _, h => by cases h
  | k0 :: ks, [], k, e, h => by cases e
  | k0 :: ks, v :: vs, k, e, h => by
    rcases List.mem_cons.mp h with rfl | h
    · exact ⟨0, v, rfl, rfl⟩
    · obtain ⟨i, v, h1, h2⟩ := dv_mem (by simpa using e) h
      exact ⟨i + 1, v, by simpa using h1, by simpa using h2⟩
theorem nodup_ix {α : Type} {l : List α} (h : l.Nodup) {i j : Nat} {x : α} (hi : l[i]? = some x) (hj : l[j]? = some x) : i = j := by
  obtain ⟨h1, e1⟩ := List.getElem?_eq_some_iff.mp hi
  obtain ⟨h2, e2⟩ := List.getElem?_eq_some_iff.mp hj
  have p := List.pairwise_iff_getElem.mp h
  rcases Nat.lt_trichotomy i j with g | g | g
  · exact absurd (e1.trans e2.symm) (p i j h1 h2 g)
  · exact g
  · exact absurd (e2.trans e1.symm) (p j i h2 h1 g)
/-! program -/
structure Clo (R : GR b) (m : Nat) (ks : List Pr) (vs : List (U b)) : Prop where
  len : ks.length = vs.length
  nodup : ks.Nodup
  sound : ∀ (i : Nat) (k : Pr) (v : U b), ks[i]? = some k → vs[i]? = some v → Ahd R m k v
  diag : ∀ p, p < m → ∃ i : Nat, ks[i]? = some (p, p) ∧ vs[i]? = some 0
  closed : ∀ k k' d, k ∈ ks → Led R k k' d → k' ∈ ks
theorem Clo.mem {R : GR b} {m : Nat} {ks : List Pr} {vs : List (U b)} (c : Clo R m ks vs) {k : Pr} {w : U b} (h : Ahd R m k w) : k ∈ ks := by
  induction h with
  | base h => obtain ⟨i, e, _⟩ := c.diag _ h; exact List.mem_of_getElem? e
  | step _ l ih => exact c.closed _ _ _ ih l
/-- nothing is out of tune -/
def Tune (R : GR b) (m : Nat) (ks : List Pr) (vs : List (U b)) : Prop := ∀ (i j : Nat) (k k' : Pr) (v v' d : U b), ks[i]? = some k → vs[i]? = some v → Led R k k' d → Mtg R m k' → ks[j]? = some k' → vs[j]? = some v' → v' = v + d
theorem Clo.val {R : GR b} {m : Nat} {ks : List Pr} {vs : List (U b)} (c : Clo R m ks vs) (t : Tune R m ks vs) {k : Pr} {w : U b} (h : Ahd R m k w) : Mtg R m k → ∃ i : Nat, ks[i]? = some k ∧ vs[i]? = some w := by
  induction h with
  | base h => exact fun _ => c.diag _ h
  | step h0 l ih =>
    rename_i x y w d
    intro hm
    obtain ⟨i, e1, e2⟩ := ih (.step l hm)
    obtain ⟨j, v', e3, e4⟩ := dv_mem c.len (c.mem (h0.step l))
    have := t i j _ _ _ _ _ e1 e2 l hm e3 e4
    exact ⟨j, e3, by rw [e4, this]⟩
theorem Clo.uniq {R : GR b} {m : Nat} {ks : List Pr} {vs : List (U b)} (c : Clo R m ks vs) (t : Tune R m ks vs) : Uniq R m := fun x w w' hm h h' => by
  obtain ⟨i, e1, e2⟩ := c.val t h hm
  obtain ⟨j, e3, e4⟩ := c.val t h' hm
  have := nodup_ix c.nodup e1 e3
  subst this
  rw [e2] at e4
  exact Option.some.inj e4
theorem not_uniq {R : GR b} {m : Nat} {k k' : Pr} {v v' d : U b} (h1 : Ahd R m k v) (l : Led R k k' d) (h2 : Mtg R m k') (h3 : Ahd R m k' v') (hn : v' ≠ v + d) : ¬ Uniq R m := fun u => hn (u _ _ _ h2 h3 (h1.step l))
/-! the law's own -/
structure Sat (R : GR b) (m : Nat) (ks : List Pr) (ls : List (List (U b))) : Prop where
  len : ks.length = ls.length
  nodup : ks.Nodup
  two : ∀ l ∈ ls, l.length ≤ 2 ∧ l.Nodup ∧ l ≠ []
  sound : ∀ (i : Nat) (k : Pr) (l : List (U b)) (w : U b), ks[i]? = some k → ls[i]? = some l → w ∈ l → Ahd R m k w
  diag : ∀ p, p < m → ∃ (i : Nat) (l : List (U b)), ks[i]? = some (p, p) ∧ ls[i]? = some l ∧ (0 : U b) ∈ l
  closed : ∀ (i : Nat) (k k' : Pr) (l : List (U b)) (w d : U b), ks[i]? = some k → ls[i]? = some l → w ∈ l → Led R k k' d → ∃ (j : Nat) (l' : List (U b)), ks[j]? = some k' ∧ ls[j]? = some l' ∧ (w + d ∈ l' ∨ l'.length = 2)
theorem Sat.not_uniq {R : GR b} {m : Nat} {ks : List Pr} {ls : List (List (U b))} (s : Sat R m ks ls) {i : Nat} {k : Pr} {l : List (U b)} (e1 : ks[i]? = some k) (e2 : ls[i]? = some l) (h : 1 < l.length) (hm : Mtg R m k) : ¬ Uniq R m := fun u => by
  obtain ⟨h1, h2, _⟩ := s.two l (List.mem_of_getElem? e2)
  match l, h with
  | x :: y :: r, _ =>
    have := u k x y hm (s.sound i k _ x e1 e2 (by simp)) (s.sound i k _ y e1 e2 (by simp))
    subst this
    simp at h2
theorem Sat.val {R : GR b} {m : Nat} {ks : List Pr} {ls : List (List (U b))} (s : Sat R m ks ls) (h1 : ∀ (i : Nat) (k : Pr) (l : List (U b)), ks[i]? = some k → ls[i]? = some l → Mtg R m k → l.length ≤ 1) {k : Pr} {w : U b} (h : Ahd R m k w) : Mtg R m k → ∃ i : Nat, ks[i]? = some k ∧ ls[i]? = some [w] := by
  have key : ∀ {i : Nat} {k : Pr} {l : List (U b)} {w : U b}, ks[i]? = some k → ls[i]? = some l → Mtg R m k → w ∈ l → l = [w] := by
    intro i k l w e1 e2 hm hw
    have := h1 i k l e1 e2 hm
    match l, this, hw with
    | [x], _, hw => simp at hw; rw [hw]
  induction h with
  | base h => intro hm; obtain ⟨i, l, e1, e2, e3⟩ := s.diag _ h; exact ⟨i, e1, by rw [e2, key e1 e2 hm e3]⟩
  | step h0 l ih =>
    rename_i x y w d
    intro hm
    obtain ⟨i, e1, e2⟩ := ih (.step l hm)
    obtain ⟨j, l', e3, e4, e5⟩ := s.closed i _ _ _ w d e1 e2 (by simp) l
    rcases e5 with e5 | e5
    · exact ⟨j, e3, by rw [e4, key e3 e4 hm e5]⟩
    · have := h1 j _ _ e3 e4 hm
      omega
theorem Sat.uniq {R : GR b} {m : Nat} {ks : List Pr} {ls : List (List (U b))} (s : Sat R m ks ls) (h1 : ∀ (i : Nat) (k : Pr) (l : List (U b)), ks[i]? = some k → ls[i]? = some l → Mtg R m k → l.length ≤ 1) : Uniq R m := fun x w w' hm h h' => by
  obtain ⟨i, e1, e2⟩ := s.val h1 h hm
  obtain ⟨j, e3, e4⟩ := s.val h1 h' hm
  have := nodup_ix s.nodup e1 e3
  subst this
  rw [e2] at e4
  simpa using e4
/-! heights -/
theorem high_val {R : GR b} {m : Nat} {r : U b} {h : Nat → U b} (hh : ∀ p q a, tie R p q = some a → a = r - h p + h q) {x : Pr} {w : U b} (g : Ahd R m x w) : w = h x.1 - h x.2 := by
  induction g with
  | base _ => grind
  | step _ l ih =>
    cases l with
    | mk h1 h2 =>
      have e1 := hh _ _ _ h1
      have e2 := hh _ _ _ h2
      simp only at ih ⊢
      grind
theorem high_uniq {R : GR b} {m : Nat} {r : U b} {h : Nat → U b} (hh : ∀ p q a, tie R p q = some a → a = r - h p + h q) : Uniq R m := fun x w w' _ g g' => by
  rw [high_val hh g, high_val hh g']
/-- the slant and the ring stand -/
structure Ringed (R : GR b) (m : Nat) : Prop where
  slant : ∀ p, p < m → ∃ a, tie R p p = some a
  ring : ∀ p, p < m → ∃ a, tie R p ((p + 1) % m) = some a
theorem Ringed.ahd {R : GR b} {m : Nat} (g : Ringed R m) {p : Nat} (hp : p < m) : ∀ k, ∃ w, Ahd R m ((p + k) % m, p) w
  | 0 => ⟨0, by rw [Nat.add_zero, Nat.mod_eq_of_lt hp]; exact .base hp⟩
  | k + 1 => by
    obtain ⟨w, h⟩ := g.ahd hp k
    obtain ⟨a, ha⟩ := g.ring ((p + k) % m) (Nat.mod_lt _ (by omega))
    obtain ⟨c, hc⟩ := g.slant p hp
    refine ⟨w + (a - c), ?_⟩
    have e : (p + (k + 1)) % m = ((p + k) % m + 1) % m := by simp [Nat.add_assoc]
    rw [e]
    exact h.step (.mk ha hc)
theorem Ringed.all {R : GR b} {m : Nat} (g : Ringed R m) {p q : Nat} (hp : p < m) (hq : q < m) : ∃ w, Ahd R m (p, q) w := by
  obtain ⟨w, h⟩ := g.ahd hq (p + m - q)
  have e : (q + (p + m - q)) % m = p := by
    rw [show q + (p + m - q) = p + m by omega, Nat.add_mod_right, Nat.mod_eq_of_lt hp]
  rw [e] at h
  exact ⟨w, h⟩
theorem Ringed.mtg {R : GR b} {m : Nat} (g : Ringed R m) {p q : Nat} (hq : q < m) : ∀ k, p < m → (p + k) % m = q → Mtg R m (p, q)
  | 0, hp, e => by rw [Nat.add_zero, Nat.mod_eq_of_lt hp] at e; subst e; exact .base hp
  | k + 1, hp, e => by
    obtain ⟨a, ha⟩ := g.ring p hp
    obtain ⟨c, hc⟩ := g.slant q hq
    refine .step (.mk ha hc) (Ringed.mtg g hq k (Nat.mod_lt _ (by omega)) ?_)
    rw [← e]; simp [Nat.add_comm, Nat.add_left_comm]
theorem Ringed.mall {R : GR b} {m : Nat} (g : Ringed R m) {p q : Nat} (hp : p < m) (hq : q < m) : Mtg R m (p, q) := by
  refine g.mtg hq (q + m - p) hp ?_
  rw [show p + (q + m - p) = q + m by omega, Nat.add_mod_right, Nat.mod_eq_of_lt hq]
/-- one cell of the ring told otherwise -/
theorem bent_not {R : GR b} {m i : Nat} {r e : U b} {h : Nat → U b} (hm : 2 ≤ m) (hi : i < m) (g : Ringed R m) (hh : ∀ p q a, tie R p q = some a → a = r - h p + h q + (if p = i ∧ q = (i + 1) % m then e else 0)) (he : e ≠ 0) : ¬ Uniq R m := by
  have key : ∀ k, k < m → Ahd R m ((i + 1 + k) % m, i) (h ((i + 1 + k) % m) - h i + e) := by
    intro k
    induction k with
    | zero =>
      intro _
      obtain ⟨a, ha⟩ := g.ring i hi
      obtain ⟨c, hc⟩ := g.slant i hi
      have h0 : (i + 1) % m ≠ i := by
        intro z
        by_cases q : i + 1 < m
        · rw [Nat.mod_eq_of_lt q] at z; omega
        · rw [show i + 1 = m by omega, Nat.mod_self] at z; omega
      have e1 := hh _ _ _ ha
      have e2 := hh _ _ _ hc
      rw [if_pos ⟨rfl, rfl⟩] at e1
      rw [if_neg (fun z => h0 z.2.symm)] at e2
      have := (Ahd.base (R := R) hi).step (.mk ha hc)
      have e3 : 0 + (a - c) = h ((i + 1) % m) - h i + e := by grind
      rw [e3] at this
      simpa using this
    | succ k ih =>
      intro hk
      have ih := ih (by omega)
      obtain ⟨a, ha⟩ := g.ring ((i + 1 + k) % m) (Nat.mod_lt _ (by omega))
      obtain ⟨c, hc⟩ := g.slant i hi
      have h0 : (i + 1) % m ≠ i := by
        intro z
        by_cases q : i + 1 < m
        · rw [Nat.mod_eq_of_lt q] at z; omega
        · rw [show i + 1 = m by omega, Nat.mod_self] at z; omega
      have h1 : (i + 1 + k) % m ≠ i := by
        intro z
        by_cases q : i + 1 + k < m
        · rw [Nat.mod_eq_of_lt q] at z; omega
        · rw [Nat.mod_eq_sub_mod (by omega), Nat.mod_eq_of_lt (by omega)] at z; omega
      have e1 := hh _ _ _ ha
      have e2 := hh _ _ _ hc
      rw [if_neg (fun z => h1 z.1)] at e1
      rw [if_neg (fun z => h0 z.2.symm)] at e2
      have := ih.step (.mk ha hc)
      have eq : (i + 1 + (k + 1)) % m = ((i + 1 + k) % m + 1) % m := by simp [Nat.add_assoc]
      rw [← eq] at this
      have e1 : a = r - h ((i + 1 + k) % m) + h ((i + 1 + (k + 1)) % m) := by rw [eq]; rw [e1]; grind
      have e3 : h ((i + 1 + k) % m) - h i + e + (a - c) = h ((i + 1 + (k + 1)) % m) - h i + e := by grind
      rw [e3] at this
      exact this
  intro u
  have := key (m - 1) (by omega)
  have e1 : (i + 1 + (m - 1)) % m = i := by
    rw [show i + 1 + (m - 1) = i + m by omega, Nat.add_mod_right, Nat.mod_eq_of_lt hi]
  rw [e1] at this
  have := u _ _ _ (.base hi) this (.base hi)
  apply he
  grind
end

/-! ### sizes: twelfths -/
def Tw (n : Nat) (q : Rat) : Prop := ∃ a : Int, q = Rat.divInt a 12 ∧ a.natAbs ≤ n
theorem Tw.add {n k : Nat} {p q : Rat} (h : Tw n p) (g : Tw k q) : Tw (n + k) (p + q) := by
  obtain ⟨a, rfl, ha⟩ := h
  obtain ⟨c, rfl, hc⟩ := g
  refine ⟨a + c, ?_, by omega⟩
  rw [Rat.divInt_add_divInt _ _ (by decide) (by decide), ← Int.add_mul, Rat.divInt_mul_right (by decide)]
theorem Tw.neg {n : Nat} {p : Rat} (h : Tw n p) : Tw n (-p) := by
  obtain ⟨a, rfl, ha⟩ := h
  exact ⟨-a, by rw [Rat.neg_divInt], by omega⟩
theorem Tw.sub {n k : Nat} {p q : Rat} (h : Tw n p) (g : Tw k q) : Tw (n + k) (p - q) := by
  rw [Rat.sub_eq_add_neg]; exact h.add g.neg
theorem Tw.zero : Tw 0 0 := ⟨0, by simp, by decide⟩
theorem Tw.mono {n k : Nat} {p : Rat} (h : Tw n p) (l : n ≤ k) : Tw k p := by
  obtain ⟨a, e, ha⟩ := h
  exact ⟨a, e, by omega⟩
theorem Tw.qz {n : Nat} {q : Rat} (h : Tw n q) (l : n < 2 ^ 1000) : Qz 1900 q := by
  obtain ⟨a, rfl, ha⟩ := h
  refine divInt_Qz (n := 1900) (by decide) ?_ ?_ (Nat.le_refl _)
  · show a.natAbs < 2 ^ 1900
    have : (2 : Nat) ^ 1000 ≤ 2 ^ 1900 := Nat.pow_le_pow_right (by decide) (by decide)
    omega
  · show (12 : Int).natAbs < 2 ^ 1900
    have : (2 : Nat) ^ 4 ≤ 2 ^ 1900 := Nat.pow_le_pow_right (by decide) (by decide)
    have e : (12 : Int).natAbs = 12 := rfl
    omega
theorem Tw.of {q : Rat} {n : Nat} (h : q.num.natAbs ≤ n) (d : q.den ≤ 4) : Tw (12 * n) q := by
  have hd := q.den_nz
  have key : ∀ k : Nat, q.den * k = 12 → k ≤ 12 → Tw (12 * n) q := by
    intro k hk kl
    refine ⟨q.num * k, ?_, ?_⟩
    · have : ((12 : Nat) : Int) = (q.den : Int) * (k : Int) := by rw [← hk, Int.natCast_mul]
      have e : (12 : Int) = (q.den : Int) * (k : Int) := this
      rw [e, Rat.divInt_mul_right (by intro z; have : k = 0 := by omega
                                      subst this; omega), Rat.num_divInt_den]
    · rw [Int.natAbs_mul, Int.natAbs_natCast, Nat.mul_comm 12 n]
      exact Nat.mul_le_mul h kl
  have : q.den = 1 ∨ q.den = 2 ∨ q.den = 3 ∨ q.den = 4 := by omega
  rcases this with e | e | e | e
  · exact key 12 (by rw [e]) (by decide)
  · exact key 6 (by rw [e]) (by decide)
  · exact key 4 (by rw [e]) (by decide)
  · exact key 3 (by rw [e]) (by decide)
def Bt {b : Nat} (n : Nat) (u : U b) : Prop := ∀ q ∈ u.1, Tw n q
theorem Bt.mono {b n k : Nat} {u : U b} (h : Bt n u) (l : n ≤ k) : Bt k u := fun q hq => (h q hq).mono l
theorem tw_zipWith {f : Rat → Rat → Rat} {n : Nat} : ∀ {u v : Un}, (∀ p ∈ u, ∀ q ∈ v, Tw n (f p q)) → ∀ q ∈ List.zipWith f u v, Tw n q
  | [], v, h, q, hq => by simp at hq
  | a :: u, [], h, q, hq => by simp at hq
  | a :: u, c :: v, h, q, hq => by
    rcases List.mem_cons.mp (show q ∈ f a c :: List.zipWith f u v from hq) with rfl | hq
    · exact h a (by simp) c (by simp)
    · exact tw_zipWith (fun p hp q hq => h p (List.mem_cons_of_mem _ hp) q (List.mem_cons_of_mem _ hq)) q hq
theorem Bt.add {b n k : Nat} {u v : U b} (h : Bt n u) (g : Bt k v) : Bt (n + k) (u + v) := tw_zipWith fun p hp q hq => (h p hp).add (g q hq)
theorem Bt.sub {b n k : Nat} {u v : U b} (h : Bt n u) (g : Bt k v) : Bt (n + k) (u - v) := tw_zipWith fun p hp q hq => (h p hp).sub (g q hq)
theorem Bt.zero {b : Nat} : Bt 0 (0 : U b) := fun q hq => by
  have : q = 0 := List.eq_of_mem_replicate hq
  rw [this]; exact .zero
theorem Bt.uz {b n : Nat} {u : U b} (h : Bt n u) (l : n ≤ 1000000) : Uz 1900 u.1 := fun q hq => (h q hq).qz (by
  have : (2 : Nat) ^ 20 ≤ 2 ^ 1000 := Nat.pow_le_pow_right (by decide) (by decide)
  omega)
/-! ### grids as data -/
abbrev uD {b : Nat} (u : U b) : D := un u.1
def clU {b : Nat} : Option (U b) → D
  | none => .non
  | some u => uD u
def rwU {b : Nat} (r : List (Option (U b))) : D := .tup (r.map clU)
def rlU {b : Nat} (r : List (Option (U b))) : D := .lst (r.map clU)
def grU {b : Nat} (R : GR b) : D := .tup (R.map rwU)
def lsU {b : Nat} (R : GR b) : D := .lst (R.map rlU)
structure Gv {b : Nat} (n m : Nat) (R : GR b) : Prop where
  hb1 : 1 ≤ b
  hb : b ≤ 3
  len : R.length = n
  n1 : 1 ≤ n
  n2 : n ≤ 10
  m1 : 1 ≤ m
  m2 : m ≤ 10
  row : ∀ r ∈ R, r.length = m
  cell : ∀ r ∈ R, ∀ u, some u ∈ r → ∀ q ∈ u.1, q.num.natAbs ≤ 6 ∧ q.den ≤ 4
theorem Gv.sq {b m : Nat} {R : GR b} (h : Gv m m R) : Sq R m := ⟨h.len, h.row⟩
theorem tie_mem {b : Nat} {R : GR b} {p q : Nat} {a : U b} (h : tie R p q = some a) : ∃ r ∈ R, some a ∈ r := by
  unfold tie at h
  cases e : R[p]? with
  | none => rw [e] at h; simp at h
  | some r =>
    rw [e] at h
    simp only [Option.getD_some] at h
    cases e2 : r[q]? with
    | none => rw [e2] at h; simp at h
    | some x =>
      rw [e2] at h
      simp only [Option.join_some] at h
      subst h
      exact ⟨r, List.mem_of_getElem? e, List.mem_of_getElem? e2⟩
/-- the ties are within bounds -/
def Tb {b : Nat} (R : GR b) (n : Nat) : Prop := ∀ p q a, tie R p q = some a → Bt n a
theorem Gv.tb {b n m : Nat} {R : GR b} (h : Gv n m R) : Tb R 72 := fun p q a e => by
  obtain ⟨r, h1, h2⟩ := tie_mem e
  intro x hx
  have := h.cell r h1 a h2 x hx
  exact Tw.of this.1 this.2
theorem imm_uD {b : Nat} (u : U b) : (uD u).imm = true := imm_un u.1
theorem plain_uD {b : Nat} (u : U b) : (uD u).plain = true := plain_un u.1
theorem imm_clU {b : Nat} (q : Option (U b)) : (clU q).imm = true := by
  cases q with
  | none => simp only [clU, D.imm]
  | some u => exact imm_un u.1
theorem uD_inj {b : Nat} {u v : U b} (h : uD u = uD v) : u = v := by
  simp only [un, D.tup.injEq] at h
  have : ∀ l l' : List Rat, l.map fr = l'.map fr → l = l' := by
    intro l
    induction l with
    | nil => intro l' h; cases l' with
      | nil => rfl
      | cons => simp at h
    | cons a l ih => intro l' h; cases l' with
      | nil => simp at h
      | cons c l' => 
        simp only [List.map_cons, List.cons.injEq] at h
        rw [fr_inj h.1, ih l' h.2]
  exact Subtype.ext (this _ _ h)
/-- rows as a tuple of tuples, or as a list of lists -/
inductive Rws {b : Nat} (R : GR b) : D → Prop
  | t : Rws R (grU R)
  | l : Rws R (lsU R)
end Y
namespace Y
open PySem L2
/-! ### data of few floors, compared -/
structure Pl (n : Nat) (z : D) : Prop where
  pl : z.plain = true
  cl : z.py.canLay0 = true
  dp : z.py.depth ≤ n
theorem Pl.mono {n m : Nat} {z : D} (h : Pl n z) (l : n ≤ m) : Pl m z := ⟨h.pl, h.cl, Nat.le_trans h.dp l⟩
theorem Pl.sh {n : Nat} {z : D} (h : Pl n z) (l : n ≤ 64) : SeqAt.shaped z.py = true := by
  unfold SeqAt.shaped
  rw [h.cl, decide_eq_true (Nat.le_trans h.dp l)]
  rfl
theorem Pl.int {n : Nat} (i : Int) : Pl n (.int i) := ⟨by simp only [D.plain], by simp only [D.py, PyData.canLay0], by simp only [D.py, PyData.depth]; omega⟩
theorem Pl.bl {n : Nat} (i : Bool) : Pl n (.bl i) := ⟨by simp only [D.plain], by simp only [D.py, PyData.canLay0], by simp only [D.py, PyData.depth]; omega⟩
theorem Pl.non {n : Nat} : Pl n .non := ⟨by simp only [D.plain], by simp only [D.py, PyData.canLay0], by simp only [D.py, PyData.depth]; omega⟩
theorem Pl.alls {n : Nat} : ∀ {zs : List D}, (∀ z ∈ zs, Pl n z) → D.plains zs = true ∧ PyData.canLayAll0 (D.pys zs) = true ∧ PyData.depthAll (D.pys zs) ≤ n
  | [], _ => ⟨by simp only [D.plains], by simp only [D.pys, PyData.canLayAll0], by simp only [D.pys, PyData.depthAll]; omega⟩
  | z :: zs, h => by
    have h1 := h z List.mem_cons_self
    obtain ⟨h2, h3, h4⟩ := Pl.alls fun y hy => h y (List.mem_cons_of_mem _ hy)
    refine ⟨by simp only [D.plains, h1.pl, h2, Bool.and_self], by simp only [D.pys, PyData.canLayAll0, h1.cl, h3, Bool.and_self], ?_⟩
    simp only [D.pys, PyData.depthAll]
    have := h1.dp
    omega
theorem Pl.tup {n : Nat} {zs : List D} (h : ∀ z ∈ zs, Pl n z) : Pl (n + 1) (.tup zs) := by
  obtain ⟨h2, h3, h4⟩ := Pl.alls h
  exact ⟨by simp only [D.plain, h2], by simp only [D.py, PyData.canLay0, h3], by simp only [D.py, PyData.depth]; omega⟩
theorem Pl.lst {n : Nat} {zs : List D} (h : ∀ z ∈ zs, Pl n z) : Pl (n + 1) (.lst zs) := by
  obtain ⟨h2, h3, h4⟩ := Pl.alls h
  exact ⟨by simp only [D.plain, h2], by simp only [D.py, PyData.canLay0, h3], by simp only [D.py, PyData.depth]; omega⟩
theorem Pl.two {n : Nat} {a d : D} (h : Pl n a) (g : Pl n d) : Pl (n + 1) (.tup [a, d]) := .tup fun z hz => by
  rcases List.mem_cons.mp hz with rfl | hz
  · exact h
  · rw [List.mem_singleton.mp hz]; exact g
theorem Pl.fr (q : Rat) : Pl 1 (fr q) := .two (.int _) (.int _)
theorem Pl.un (u : Un) : Pl 2 (un u) := .tup fun z hz => by
  obtain ⟨q, _, rfl⟩ := List.mem_map.mp hz
  exact .fr q
theorem Pl.cl' {b : Nat} (q : Option (U b)) : Pl 2 (clU q) := by
  cases q with
  | none => exact .non
  | some u => exact .un u.1
theorem op_eqP {c : Ctx} {x y : D} {n m : Nat} {Φ : D → Prop} (hx : Pl n x) (hy : Pl m y) (hn : n ≤ 64) (hm : m ≤ 64) (h : Φ (.bl (PyData.eqv x.py y.py))) : Op2 c (compareOp .Eq) x y Φ := op_eqD hx.pl hy.pl (hx.sh hn) (hy.sh hm) h
theorem op_neP {c : Ctx} {x y : D} {n m : Nat} {Φ : D → Prop} (hx : Pl n x) (hy : Pl m y) (hn : n ≤ 64) (hm : m ≤ 64) (h : Φ (.bl (!PyData.eqv x.py y.py))) : Op2 c (compareOp .NotEq) x y Φ := op_neD hx.pl hy.pl (hx.sh hn) (hy.sh hm) h
theorem eqv_fr (p q : Rat) : PyData.eqv (fr p).py (fr q).py = decide (p = q) := by
  simp only [fr, D.py, D.pys, PyData.eqv, PyData.eqvAll, Bool.and_true]
  by_cases h : p = q
  · subst h; simp
  · rw [decide_eq_false h]
    cases e : (p.num == q.num) with
    | false => simp
    | true =>
      simp only [Bool.true_and, beq_eq_false_iff_ne, ne_eq]
      intro z
      exact h (Rat.ext (eq_of_beq e) (by omega))
theorem eqv_uns : ∀ u v : Un, PyData.eqvAll (D.pys (u.map fr)) (D.pys (v.map fr)) = decide (u = v)
  | [], [] => by simp only [List.map_nil, D.pys, PyData.eqvAll]; rfl
  | [], q :: v => by simp only [List.map_nil, List.map_cons, D.pys, PyData.eqvAll]; simp
  | p :: u, [] => by simp only [List.map_nil, List.map_cons, D.pys, PyData.eqvAll]; simp
  | p :: u, q :: v => by
    simp only [List.map_cons, D.pys, PyData.eqvAll, eqv_fr, eqv_uns u v]
    by_cases h1 : p = q <;> by_cases h2 : u = v <;> simp [h1, h2]
theorem eqv_un (u v : Un) : PyData.eqv (un u).py (un v).py = decide (u = v) := by simp only [un, D.py, PyData.eqv, eqv_uns]
theorem eqv_uD {b : Nat} (u v : U b) : PyData.eqv (uD u).py (uD v).py = decide (u = v) := by
  rw [eqv_un]
  exact decide_eq_decide.mpr ⟨fun h => Subtype.ext h, fun h => by rw [h]⟩
theorem op_eqU {c : Ctx} {b : Nat} {u v : U b} {Φ : D → Prop} (h : Φ (.bl (decide (u = v)))) : Op2 c (compareOp .Eq) (uD u) (uD v) Φ := op_eqP (.un _) (.un _) (by decide) (by decide) (by rw [eqv_uD]; exact h)
theorem op_neU {c : Ctx} {b : Nat} {u v : U b} {Φ : D → Prop} (h : Φ (.bl (!decide (u = v)))) : Op2 c (compareOp .NotEq) (uD u) (uD v) Φ := op_neP (.un _) (.un _) (by decide) (by decide) (by rw [eqv_uD]; exact h)

section
variable {c : Ctx} {N : List Str} {env : Ev}
theorem it_rng {tg a : Expr} {p pos : Pos} {Φ : List D → (Ev → Prop) → Ev → Prop} (hm : c.g.mg "range" = none) (hk : Kn c.nm "range" .globalImplicit) (h : E c N env a fun z env1 => ∃ n : Nat, z = .int n ∧ n < 2 ^ 60 ∧ Φ ((List.range n).map fun i => D.int (i : Nat)) (fun _ => True) env1) (hs : ∀ env, starEach [a] env = [(false, eval a env)]) : IT c N env tg (.Call (.Name "range" p) [a] [] pos) Φ := by
  refine it_range1 hm hk (h.mono fun z env1 h1 => ?_) hs
  obtain ⟨n, rfl, hn, hp⟩ := h1
  refine ⟨_, rfl, by omega, by omega, ?_⟩
  have e : ((List.range (n : Int).toNat).map fun i => D.int (0 + (i : Nat))) = (List.range n).map fun i => D.int (i : Nat) := by
    rw [Int.toNat_natCast]
    exact List.map_congr_left fun i _ => by rw [Int.zero_add]
  rw [e]; exact hp
theorem rng_get {n k : Nat} {z : D} (h : ((List.range n).map fun i => D.int (i : Nat))[k]? = some z) : k < n ∧ z = .int k := by
  obtain ⟨x, h1, rfl⟩ := map_get h
  obtain ⟨h2, h3⟩ := List.getElem?_eq_some_iff.mp h1
  simp at h2 h3
  subst h3
  exact ⟨h2, rfl⟩
theorem rng_len {n : Nat} : ((List.range n).map fun i => D.int (i : Nat)).length = n := by simp
theorem room65 {k : Nat} {A : Around} (r : Room k A) : A.units + 65 < cLine := by have := r.un; omega
/-- x in l, x not in l, of plain data -/
theorem seenL {X : Cx} {K : PySem.W.Frag} {F H : Hp} {z : D} {v : V} {n : Nat} (wf : Wf F H) (h : Pl n z) (r : Rep K H z v) : Dp K H v z.py := Rep.dp z v h.pl r
def isInD (x : D) (zs : List D) : Bool := zs.any fun z => PyData.eqv z.py x.py
theorem pys_any {x : D} : ∀ zs : List D, (D.pys zs).any (fun z => PyData.eqv z x.py) = isInD x zs
  | [] => by simp only [D.pys]; rfl
  | z :: zs => by
    have ih := pys_any (x := x) zs
    unfold isInD at ih ⊢
    simp only [D.pys, List.any_cons, ih]
theorem t_inL {a d : Expr} {pos : Pos} {Φ : Bool → Ev → Prop} (h : E c N env a fun y env1 => E c N env1 d fun x env2 => ∃ (zs : List D) (n : Nat), Seen env2 x (.lst zs) ∧ Pl n y ∧ (∀ z ∈ zs, Pl n z) ∧ n ≤ 60 ∧ Φ (isInD y zs) env2) (hm : behindInMarks .In d = false) : T c N env (.Compare a [.In] [d] pos) Φ := by
  intro X hX b F H σ S W tW xl Q hQ
  refine (pt_cmpR (op_inD (room65 hX.room)) pe_wp pe_wp hm).wp ?_
  refine h X hX b F H σ S W tW xl _ fun y env1 vy F1 H1 h1 f1 S1 r1 => ?_
  refine h1 X hX b F1 H1 σ S1 W tW (xl.fe f1) _ fun x env2 vx F2 H2 h2 f2 S2 r2 => ?_
  obtain ⟨zs, n, hs, hy, hz, hn, hp⟩ := h2
  have pl := Pl.lst hz
  refine ⟨y.py, D.pys zs, by rw [hX.gK]; exact Rep.dp y vy hy.pl (Rep.mono S2.wf.ex _ _ (f2.rep r1)), ?_, hy.sh (by omega), ?_, _, rfl, ?_⟩
  · have q := Rep.dp _ vx pl.pl (S2.seen r2 hs)
    rw [hX.gK]
    simpa only [D.py] using q
  · have q := pl.sh (by omega)
    simpa only [D.py] using q
  · rw [pys_any]
    exact hQ _ env2 F2 H2 hp (f1.trans f2) S2
theorem t_notinL {a d : Expr} {pos : Pos} {Φ : Bool → Ev → Prop} (h : E c N env a fun y env1 => E c N env1 d fun x env2 => ∃ (zs : List D) (n : Nat), Seen env2 x (.lst zs) ∧ Pl n y ∧ (∀ z ∈ zs, Pl n z) ∧ n ≤ 60 ∧ Φ (!isInD y zs) env2) (hm : behindInMarks .NotIn d = false) : T c N env (.Compare a [.NotIn] [d] pos) Φ := by
  intro X hX b F H σ S W tW xl Q hQ
  refine (pt_cmpR (op_notInD (room65 hX.room)) pe_wp pe_wp hm).wp ?_
  refine h X hX b F H σ S W tW xl _ fun y env1 vy F1 H1 h1 f1 S1 r1 => ?_
  refine h1 X hX b F1 H1 σ S1 W tW (xl.fe f1) _ fun x env2 vx F2 H2 h2 f2 S2 r2 => ?_
  obtain ⟨zs, n, hs, hy, hz, hn, hp⟩ := h2
  have pl := Pl.lst hz
  refine ⟨y.py, D.pys zs, by rw [hX.gK]; exact Rep.dp y vy hy.pl (Rep.mono S2.wf.ex _ _ (f2.rep r1)), ?_, hy.sh (by omega), ?_, _, rfl, ?_⟩
  · have q := Rep.dp _ vx pl.pl (S2.seen r2 hs)
    rw [hX.gK]
    simpa only [D.py] using q
  · have q := pl.sh (by omega)
    simpa only [D.py] using q
  · rw [pys_any]
    exact hQ _ env2 F2 H2 hp (f1.trans f2) S2
/-- a dict's resource, locked or not -/
inductive ResD (rs : Rs) (w : V) (ks : List (List Key)) (os : List O) : Prop
  | d {f : O → Rs} : Res rs w (.d ks os) f → ResD rs w ks os
  | kd {ob : Obj} {us : List V} {f : O → Rs} : Res rs w (.kd ob us ks os) f → ResD rs w ks os
theorem ResD.seen {w : V} {ks : List (List Key)} {os : List O} (h : ResD env.rs w ks os) : Seen env (.raw w) (.dic ks (O.fzs os)) := by
  cases h with
  | d h => exact seen_d h
  | kd h => exact seen_kd h
theorem ResD.open {K : PySem.W.Frag} {b : Hp × Hp} {F H : Hp} {σ : List (Option V)} {w : V} {ks : List (List Key)} {os : List O} (S : St K b F H σ env) (h : ResD env.rs w ks os) : ∃ a us A, w = .ref a ∧ Rd H a (.dT (ks.zip us)) ∧ ks.length = os.length ∧ Owns K F H os us A := by
  cases h with
  | d h =>
    obtain ⟨B, g, _⟩ := S.res h
    simp only [Own] at g
    obtain ⟨a, us, rfl, _, _, h4, h5, h6⟩ := g
    exact ⟨a, us, _, rfl, .inl h4, h5, h6⟩
  | kd h =>
    rename_i ob us f
    obtain ⟨B, g, _⟩ := S.res h
    simp only [Own] at g
    obtain ⟨a, rfl, _, _, h4, h5, h6⟩ := g
    exact ⟨a, us, _, rfl, .inr ⟨ob, h4⟩, h5, h6⟩
/-- d[k], what stands there being frozen -/
theorem e_dgetS {d a : Expr} {pos : Pos} {Φ : D → Ev → Prop} (h : E c N env d fun x env1 => E c N env1 a fun y env2 => ∃ (w : V) (ks : List (List Key)) (os : List O) (k : List Key) (z : D), x = .raw w ∧ ResD env2.rs w ks os ∧ y.key = some k ∧ dGet ks os k = some (.s z) ∧ Φ z env2) (hs : NoSl a) : E c N env (.Subscript d a pos) Φ := by
  intro X hX b F H σ S W tW xl Q hQ
  refine (pe_dget (hu_of hX.room) pe_wp pe_wp hs).wp ?_
  refine h X hX b F H σ S W tW xl _ fun x env1 vx F1 H1 h1 f1 S1 r1 => ?_
  refine h1 X hX b F1 H1 σ S1 W tW (xl.fe f1) _ fun y env2 vy F2 H2 h2 f2 S2 r2 => ?_
  obtain ⟨w, ks, os, k, z, rfl, hr, hk, hz, hp⟩ := h2
  obtain ⟨bb, rfl, hb⟩ := rep_key r2 hk
  simp only [Rep] at r1
  subst r1
  obtain ⟨a2, us, A, rfl, g1, g2, g3⟩ := hr.open S2
  obtain ⟨j, ej, ez⟩ : ∃ j, dIx ks k = some j ∧ os[j]? = some (.s z) := by
    unfold dGet at hz
    cases e : dIx ks k with
    | none => rw [e] at hz; simp at hz
    | some j => rw [e] at hz; exact ⟨j, rfl, hz⟩
  obtain ⟨v, B, e1, e2, _⟩ := g3.at ez
  simp only [Own] at e2
  have ev : dGet ks us k = some v := by unfold dGet; rw [ej]; exact e1
  refine ⟨a2, v, rfl, ?_, hQ z env2 v F2 H2 hp (f1.trans f2) S2 e2⟩
  refine .inr ⟨_, k, bb, g1, rfl, S2.wf.ex.tp _ _ hb, ?_⟩
  rw [← ev]
  exact (valV_zip (g2.trans g3.length)).symm
end
/-! ### the trees in a dict are frozen -/
theorem St.freezeAll {K : PySem.W.Frag} {b : Hp × Hp} {H : Hp} {σ : List (Option V)} {vs : List (Option D)} {rs : Rs} : ∀ {ts : List O} {us : List V} {F : Hp}, us.length = ts.length → St K b F H σ ⟨vs, us.zip ts ++ rs⟩ → ∃ F', FE F F' ∧ St K b F' H σ ⟨vs, rs⟩ ∧ Reps K F' (O.fzs ts) us
  | [], [], F, _, S => ⟨F, .refl F, S, by simp only [O.fzs, Reps]⟩
  | t :: ts, u :: us, F, e, S => by
    obtain ⟨F1, f1, S1, r1⟩ := St.freeze (env := ⟨vs, us.zip ts ++ rs⟩) (v := u) (t := t) S
    obtain ⟨F2, f2, S2, r2⟩ := St.freezeAll (ts := ts) (us := us) (by simpa using e) S1
    exact ⟨F2, f1.trans f2, S2, by simp only [O.fzs]; exact .cons (f2.rep r1) r2⟩
theorem owns_s {K : PySem.W.Frag} {F H : Hp} {A : Addr → Prop} : ∀ {ds : List D} {us : List V}, Reps K F ds us → Owns K F H (ds.map O.s) us A
  | [], us, h => by simp only [Reps] at h; subst h; exact .nil
  | d :: ds, us, h => by
    simp only [Reps] at h
    obtain ⟨v, vs', rfl, h2, h3⟩ := h
    exact .cons (fun _ => True) (by simp only [Own]; exact h2) (owns_s h3)
theorem r_frzD {c : Ctx} {N : List Str} {vs : List (Option D)} {rs rs' : Rs} {w : V} {ks : List (List Key)} {ts : List O} {st : List Stmt} {Ψ : Post} (hp : rs.Perm ((w, .d ks ts) :: rs')) (h : R c N ⟨vs, (w, .d ks ((O.fzs ts).map O.s)) :: rs'⟩ st Ψ) : R c N ⟨vs, rs⟩ st Ψ := by
  intro X hX b F H σ S W tW xl D L
  obtain ⟨a, u, A, rfl, hu, hf, sh, hk, go⟩ := St.nodeW (vs := vs) (t := .d ks ts) (ys := []) S (by simpa using hp) rfl
  obtain ⟨us, rfl, e0, e1⟩ := sh
  have e2 := e0.trans e1
  have ek : kidsV (.dT (ks.zip us)) = us := zip_snd e2
  rw [ek] at hk
  simp only [List.map_nil, List.append_nil, O.kids] at hk
  have m1 : (us.zip ts).map (·.2) = ts := List.map_snd_zip (by omega)
  have m2 : (us.zip ts).map (·.1) = us := List.map_fst_zip (by omega)
  have q := go (.d ks (us.map fun v => .s (.raw v))) (.dT (ks.zip us)) (us.zip ts) ⟨us, rfl, by simp [e2], by simp⟩ (by
    rw [ek, m1, m2]
    refine Owns.app (B := fun _ => False) ?_ (hk.reg fun x hx => ⟨hx, fun z => z⟩)
    have : ∀ us : List V, Owns c.K F H (us.map fun v => O.s (.raw v)) us (fun x => A x ∧ False) := by
      intro us
      induction us with
      | nil => exact .nil
      | cons v us ih => exact .cons (fun _ => True) (by simp only [Own, Rep]) (ih.reg fun x hx => ⟨hx, fun z => hx.2⟩)
    exact this us)
  rw [upd_self hu] at q
  have q2 : St c.K b F H σ ⟨vs, us.zip ts ++ ((.ref a, .d ks (us.map fun v => .s (.raw v))) :: rs')⟩ := ⟨q.le, q.vr, q.ow.perm (List.perm_middle.symm)⟩
  obtain ⟨F1, f1, S1, r1⟩ := St.freezeAll (by omega) q2
  obtain ⟨a', u', A', e', hu', hf', sh', hk', go'⟩ := St.nodeW (vs := vs) (w := .ref a) (t := .d ks (us.map fun v => .s (.raw v))) (ys := []) (rs' := rs') S1 (.refl _) rfl
  cases e'
  rw [hu] at hu'
  cases hu'
  have q3 := go' (.d ks ((O.fzs ts).map O.s)) (.dT (ks.zip us)) [] ⟨us, rfl, by simp [O.fzs_length, e0], by simp [O.fzs_length, e1]⟩ (by
    rw [ek]
    simp only [List.map_nil, List.append_nil, O.kids]
    exact owns_s r1)
  rw [upd_self hu] at q3
  exact h X hX b F1 H σ q3 W tW (xl.fe f1) D (L.fe f1)
end Y
namespace Y
open PySem L2
section
variable {c : Ctx} {N : List Str}
/-- each item told beforehand, with tests: none is left out -/
def ToldF (c : Ctx) (N : List Str) (elt tg : Expr) (ifs : List Expr) (scope : Scope) (own : List (Str × Nat)) (Φ : List D → Ev → Prop) : List D → (Ev → Prop) → Ev → Prop := fun zs cond env1 =>
  ∃ ys : List (Option D), ys.length = zs.length ∧ zs.length ≤ 1000000 ∧ (∀ vs w os, cond ⟨vs, (w, .l os) :: env1.rs⟩) ∧
    (∀ (k : Nat) (z : D) (y : Option D), zs[k]? = some z → ys[k]? = some y → ∃ l, Bd N scope.names tg z l ∧ (∀ p ∈ l, p.1 ∈ own.map (·.2)) ∧ Ts (c.blk scope) N ⟨setsD (wipeV env1.vs (own.map (·.2))) l, env1.rs⟩ ifs fun t env2 => env2.rs = env1.rs ∧ t = y.isSome ∧ ∀ y', y = some y' → E (c.blk scope) N env2 elt fun z' env3 => z' = y' ∧ env3.rs = env1.rs) ∧ Φ (ys.filterMap id) env1
theorem fm_snoc {α : Type} {ys : List (Option α)} {k : Nat} {y : Option α} (h : ys[k]? = some y) : (ys.take (k + 1)).filterMap id = (ys.take k).filterMap id ++ y.toList := by
  rw [take_snoc h, List.filterMap_append]
  cases y <;> rfl
theorem lc_toldF {env : Ev} {elt tg iter : Expr} {ifs : List Expr} {scope : Scope} {Φ : O → Ev → Prop} (own : List (Str × Nat)) (h : IT c N env tg iter (ToldF c N elt tg ifs scope own fun ys => Φ (.l (ys.map O.s)))) : LcOk c N env elt tg iter ifs scope own Φ := by
  refine IT.mono h fun zs cond env1 h => ?_
  obtain ⟨ys, h1, h2, h3, h4, h5⟩ := h
  refine ⟨fun k os rs => os = ((ys.take k).filterMap id).map O.s ∧ rs = env1.rs, ⟨by simp, rfl⟩, fun k os rs h w vs => ?_, h2, fun k z os rs hk _ h => ?_, fun os rs _ h => ?_⟩
  · obtain ⟨_, rfl⟩ := h; exact h3 vs w os
  · obtain ⟨rfl, rfl⟩ := h
    have hk2 : k < ys.length := by rw [h1]; exact (List.getElem?_eq_some_iff.mp hk).1
    have ey : ys[k]? = some ys[k] := List.getElem?_eq_getElem hk2
    obtain ⟨l, b1, b2, he⟩ := h4 k z _ hk ey
    refine ⟨l, b1, b2, fun X hX b F H σ S W tW xl Q hQ => he X hX b F H σ S W tW xl Q fun t env2 F2 H2 p f S2 => hQ t env2 F2 H2 ?_ f S2⟩
    obtain ⟨p1, p2, p3⟩ := p
    refine ⟨fun e => ?_, fun e => ?_⟩
    · dsimp only
      rw [fm_snoc ey]
      rw [e] at p2
      cases q : ys[k] with
      | none => exact ⟨by simp, p1⟩
      | some y => rw [q] at p2; cases p2
    · rw [e] at p2
      cases q : ys[k] with
      | none => rw [q] at p2; cases p2
      | some y =>
        refine E.toO ((p3 y q).mono fun z' env3 hz => ?_)
        obtain ⟨rfl, e3⟩ := hz
        exact ⟨by rw [fm_snoc ey, q, List.map_append]; rfl, e3⟩
  · obtain ⟨rfl, rfl⟩ := h
    rw [← h1, List.take_length]
    exact h5
theorem e_lcTF {env : Ev} {elt tg iter : Expr} {ifs : List Expr} {scope : Scope} {pos : Pos} {Φ : D → Ev → Prop} (own : List (Str × Nat)) (hb : blkN N c.nm scope own = true) (h : IT c N env tg iter (ToldF c N elt tg ifs scope own fun ys => Φ (.lst ys)))
    (hs : ∀ env x, foldedSetIterable iter env x = pure x) : E c N env (.ListComp elt [⟨tg, iter, ifs, 0⟩] scope pos) Φ := by
  refine EO.toE (eo_lc own hb (Φ := fun t env1 => Φ t.fz env1) (lc_toldF own (IT.mono h fun zs cond env1 h => ?_)) hs)
  obtain ⟨ys, h1, h2, h3, h4, h5⟩ := h
  refine ⟨ys, h1, h2, h3, h4, ?_⟩
  have e : (O.l ((ys.filterMap id).map O.s)).fz = .lst (ys.filterMap id) := by simp only [O.fz, fzs_map]
  dsimp only
  rw [e]; exact h5
theorem lc_told1 {env : Ev} {elt tg iter : Expr} {scope : Scope} {Φ : O → Ev → Prop} (own : List (Str × Nat)) (h : IT c N env tg iter (Told c N elt tg scope own fun ys => Φ (.l (ys.map O.s)))) : LcOk c N env elt tg iter [] scope own Φ := by
  refine IT.mono h fun zs cond env1 h => ?_
  obtain ⟨ys, h1, h2, h3, h4, h5⟩ := h
  exact lc_told (c := c) (N := N) ys h1 h2 h3 h4 h5
theorem eo_lcT {env : Ev} {elt tg iter : Expr} {scope : Scope} {pos : Pos} {Φ : O → Ev → Prop} (own : List (Str × Nat)) (hb : blkN N c.nm scope own = true) (h : IT c N env tg iter (Told c N elt tg scope own fun ys => Φ (.l (ys.map O.s))))
    (hs : ∀ env x, foldedSetIterable iter env x = pure x) : EO c N env (.ListComp elt [⟨tg, iter, [], 0⟩] scope pos) Φ := eo_lc own hb (lc_told1 own h) hs
theorem s_newLcT {y : Str} {env : Ev} {i : Nat} {py spos : Pos} {elt tg iter : Expr} {scope : Scope} {pos : Pos} {Ψ : Post} (own : List (Str × Nat)) (hb : blkN N c.nm scope own = true) (h : IT c N env tg iter (Told c N elt tg scope own fun ys env1 => ∀ w, ∃ f, Put N env1.vs y i f ∧ Ψ.nx ⟨f (.raw w), (w, .l (ys.map O.s)) :: env1.rs⟩)) (hk : Kn c.nm y .local) (hi : Ix N y i) (hs : ∀ env x, foldedSetIterable iter env x = pure x) (hl : (py.line == pos.line) = true) (ha : (scope.names.any fun (n, k) => n == y && (k == .local || k == .cell)) = false) : S1 c N env (.Assign [.Name y py] (.ListComp elt [⟨tg, iter, [], 0⟩] scope pos) spos) Ψ :=
  s_newLc own hb (lc_told1 (Φ := fun z env1 => ∀ w, ∃ f, Put N env1.vs y i f ∧ Ψ.nx ⟨f (.raw w), (w, z) :: env1.rs⟩) own h) hk hi hs hl ha
theorem s_setLcT {y : Str} {env : Ev} {i : Nat} {py spos : Pos} {elt tg iter : Expr} {scope : Scope} {pos : Pos} {Ψ : Post} (own : List (Str × Nat)) (hb : blkN N c.nm scope own = true) (h : IT c N env tg iter (Told c N elt tg scope own fun ys env1 => ∃ f, Put N env1.vs y i f ∧ Ψ.nx ⟨f (.lst ys), env1.rs⟩)) (hk : Kn c.nm y .local) (hi : Ix N y i) (hs : ∀ env x, foldedSetIterable iter env x = pure x) (hl : (py.line == pos.line) = true) (ha : (scope.names.any fun (n, k) => n == y && (k == .local || k == .cell)) = false) : S1 c N env (.Assign [.Name y py] (.ListComp elt [⟨tg, iter, [], 0⟩] scope pos) spos) Ψ :=
  s_setLc own hb (lc_told1 (Φ := fun z env1 => ∃ f, Put N env1.vs y i f ∧ Ψ.nx ⟨f z.fz, env1.rs⟩) own (IT.mono h fun zs cond env1 h => by
    obtain ⟨ys, h1, h2, h3, h4, h5⟩ := h
    exact ⟨ys, h1, h2, h3, h4, by simpa only [O.fz, fzs_map] using h5⟩)) hk hi hs hl ha
theorem s_setLcF {y : Str} {env : Ev} {i : Nat} {py spos : Pos} {elt tg iter : Expr} {ifs : List Expr} {scope : Scope} {pos : Pos} {Ψ : Post} (own : List (Str × Nat)) (hb : blkN N c.nm scope own = true) (h : IT c N env tg iter (ToldF c N elt tg ifs scope own fun ys env1 => ∃ f, Put N env1.vs y i f ∧ Ψ.nx ⟨f (.lst ys), env1.rs⟩)) (hk : Kn c.nm y .local) (hi : Ix N y i) (hs : ∀ env x, foldedSetIterable iter env x = pure x) (hl : (py.line == pos.line) = true) (ha : (scope.names.any fun (n, k) => n == y && (k == .local || k == .cell)) = false) : S1 c N env (.Assign [.Name y py] (.ListComp elt [⟨tg, iter, ifs, 0⟩] scope pos) spos) Ψ :=
  s_setLc own hb (lc_toldF (Φ := fun z env1 => ∃ f, Put N env1.vs y i f ∧ Ψ.nx ⟨f z.fz, env1.rs⟩) own (IT.mono h fun zs cond env1 h => by
    obtain ⟨ys, h1, h2, h3, h4, h5⟩ := h
    exact ⟨ys, h1, h2, h3, h4, by simpa only [O.fz, fzs_map] using h5⟩)) hk hi hs hl ha
/-- dict comprehensions, each item told beforehand -/
def ToldD (c : Ctx) (N : List Str) (kx vx tg : Expr) (ifs : List Expr) (scope : Scope) (own : List (Str × Nat)) (Φ : List (List Key) → List D → Ev → Prop) : List D → (Ev → Prop) → Ev → Prop := fun zs cond env1 =>
  ∃ ys : List (Option (List Key × D)), ys.length = zs.length ∧ zs.length ≤ 1000000 ∧ (∀ vs w ks os, cond ⟨vs, (w, .d ks os) :: env1.rs⟩) ∧
    (∀ (k : Nat) (z : D) (y : Option (List Key × D)), zs[k]? = some z → ys[k]? = some y → ∃ l, Bd N scope.names tg z l ∧ (∀ p ∈ l, p.1 ∈ own.map (·.2)) ∧ Ts (c.blk scope) N ⟨setsD (wipeV env1.vs (own.map (·.2))) l, env1.rs⟩ ifs fun t env2 => env2.rs = env1.rs ∧ t = y.isSome ∧
      ∀ y', y = some y' → E (c.blk scope) N env2 kx fun z' env3 => z'.key = some y'.1 ∧ E (c.blk scope) N env3 vx fun z2 env4 => z2 = y'.2 ∧ env4.rs = env1.rs) ∧ ((ys.filterMap id).map (·.1)).Nodup ∧ Φ ((ys.filterMap id).map (·.1)) ((ys.filterMap id).map (·.2)) env1
theorem nodup_take {α : Type} {l : List α} {k : Nat} {x : α} (h : l.Nodup) (e : l[k]? = some x) : x ∉ l.take k := by
  intro hx
  obtain ⟨i, hi⟩ := List.mem_iff_getElem?.mp hx
  rw [List.getElem?_take] at hi
  by_cases q : i < k
  · rw [if_pos q] at hi
    exact absurd (nodup_ix h hi e) (by omega)
  · rw [if_neg q] at hi; cases hi
theorem fm_take {α β : Type} {f : α → β} {ys : List (Option α)} {k : Nat} {y : α} (h : ys[k]? = some (some y)) (hn : ((ys.filterMap id).map f).Nodup) : f y ∉ ((ys.take k).filterMap id).map f := by
  have e : ys.filterMap id = (ys.take k).filterMap id ++ (y :: (ys.drop (k + 1)).filterMap id) := by
    conv => lhs; rw [← List.take_append_drop k ys]
    rw [List.filterMap_append]
    congr 1
    have hk : k < ys.length := (List.getElem?_eq_some_iff.mp h).1
    have : ys.drop k = some y :: ys.drop (k + 1) := by
      rw [List.drop_eq_getElem_cons hk, (List.getElem?_eq_some_iff.mp h).2]
    rw [this]; rfl
  rw [e, List.map_append, List.nodup_append] at hn
  intro hx
  exact hn.2.2 _ hx _ (by simp) rfl
theorem dc_told {env : Ev} {kx vx tg iter : Expr} {ifs : List Expr} {scope : Scope} {Φ : O → Ev → Prop} (own : List (Str × Nat)) (h : IT c N env tg iter (ToldD c N kx vx tg ifs scope own fun ks zs => Φ (.d ks (zs.map O.s)))) : DcOk c N env kx vx tg iter ifs scope own Φ := by
  refine IT.mono h fun zs cond env1 h => ?_
  obtain ⟨ys, h1, h2, h3, h4, h5, h6⟩ := h
  refine ⟨fun k ks os rs => ks = ((ys.take k).filterMap id).map (·.1) ∧ os = ((ys.take k).filterMap id).map (fun p => O.s p.2) ∧ rs = env1.rs, ⟨by simp, by simp, rfl⟩, fun k ks os rs h w vs => ?_, h2, fun k z ks os rs hk _ _ h => ?_, fun ks os rs _ _ h => ?_⟩
  · obtain ⟨_, _, rfl⟩ := h; exact h3 vs w _ os
  · obtain ⟨rfl, rfl, rfl⟩ := h
    have hk2 : k < ys.length := by rw [h1]; exact (List.getElem?_eq_some_iff.mp hk).1
    have ey : ys[k]? = some ys[k] := List.getElem?_eq_getElem hk2
    obtain ⟨l, b1, b2, he⟩ := h4 k z _ hk ey
    refine ⟨l, b1, b2, fun X hX b F H σ S W tW xl Q hQ => he X hX b F H σ S W tW xl Q fun t env2 F2 H2 p f S2 => hQ t env2 F2 H2 ?_ f S2⟩
    obtain ⟨p1, p2, p3⟩ := p
    refine ⟨fun e => ?_, fun e => ?_⟩
    · dsimp only
      rw [fm_snoc ey]
      rw [e] at p2
      cases q : ys[k] with
      | none => exact ⟨by simp, by simp, p1⟩
      | some y => rw [q] at p2; cases p2
    · rw [e] at p2
      cases q : ys[k] with
      | none => rw [q] at p2; cases p2
      | some y =>
        refine (p3 y q).mono fun z' env3 hz => ?_
        obtain ⟨hkey, hv⟩ := hz
        refine E.toO (hv.mono fun z2 env4 hz => ?_)
        obtain ⟨rfl, e3⟩ := hz
        refine ⟨y.1, hkey, fm_take (f := fun p : List Key × D => p.1) (by rw [ey, q]) h5, ?_⟩
        exact ⟨by rw [fm_snoc ey, q, List.map_append]; rfl, by rw [fm_snoc ey, q, List.map_append]; rfl, e3⟩
  · obtain ⟨rfl, rfl, rfl⟩ := h
    rw [← h1, List.take_length]
    have e : (ys.filterMap id).map (fun p => O.s p.2) = ((ys.filterMap id).map (·.2)).map O.s := by rw [List.map_map]; rfl
    rw [e]; exact h6
theorem eo_dcT {env : Ev} {kx vx tg iter : Expr} {ifs : List Expr} {scope : Scope} {pos : Pos} {Φ : O → Ev → Prop} (own : List (Str × Nat)) (hb : blkN N c.nm scope own = true) (h : IT c N env tg iter (ToldD c N kx vx tg ifs scope own fun ks zs => Φ (.d ks (zs.map O.s))))
    (hs : ∀ env x, foldedSetIterable iter env x = pure x) : EO c N env (.DictComp kx vx [⟨tg, iter, ifs, 0⟩] scope pos) Φ := eo_dc own hb (dc_told own h) hs
theorem s_newDcT {y : Str} {env : Ev} {i : Nat} {py spos : Pos} {kx vx tg iter : Expr} {ifs : List Expr} {scope : Scope} {pos : Pos} {Ψ : Post} (own : List (Str × Nat)) (hb : blkN N c.nm scope own = true) (h : IT c N env tg iter (ToldD c N kx vx tg ifs scope own fun ks zs env1 => ∀ w, ∃ f, Put N env1.vs y i f ∧ Ψ.nx ⟨f (.raw w), (w, .d ks (zs.map O.s)) :: env1.rs⟩)) (hk : Kn c.nm y .local) (hi : Ix N y i) (hs : ∀ env x, foldedSetIterable iter env x = pure x) (hl : (py.line == pos.line) = true) (ha : (scope.names.any fun (n, k) => n == y && (k == .local || k == .cell)) = false) : S1 c N env (.Assign [.Name y py] (.DictComp kx vx [⟨tg, iter, ifs, 0⟩] scope pos) spos) Ψ :=
  s_newDc own hb (dc_told (Φ := fun z env1 => ∀ w, ∃ f, Put N env1.vs y i f ∧ Ψ.nx ⟨f (.raw w), (w, z) :: env1.rs⟩) own h) hk hi hs hl ha
end
end Y
namespace Y
theorem br_t {b : Bool} {A B : Prop} (e : b = true) (h : A) : (b = true → A) ∧ (b = false → B) := by subst e; exact ⟨fun _ => h, fun z => nomatch z⟩
theorem br_f {b : Bool} {A B : Prop} (e : b = false) (h : B) : (b = true → A) ∧ (b = false → B) := by subst e; exact ⟨fun z => (nomatch z), fun _ => h⟩
theorem bq_t {b : Bool} {A B : Prop} (e : b = true) (h : A) : (b = false → B) ∧ (b = true → A) := by subst e; exact ⟨fun z => (nomatch z), fun _ => h⟩
theorem bq_f {b : Bool} {A B : Prop} (e : b = false) (h : B) : (b = false → B) ∧ (b = true → A) := by subst e; exact ⟨fun _ => h, fun z => nomatch z⟩
end Y
namespace Y
open PySem L2
/-- nothing is raised -/
abbrev Ctx.nox (c : Ctx) : Ctx := { c with xc := fun _ _ _ => False }
theorem r_nox {c : Ctx} {N : List Str} {env : Ev} {st : List Stmt} {Ψ : Post} (h : R c.nox N env st Ψ) : R c N env st Ψ :=
  fun X hX b F H σ S W tW xl D L => h X ⟨hX.gP, hX.gw, hX.gK, hX.gmg, hX.gbase, hX.gN, hX.kn, hX.pl, hX.sto, hX.calm, hX.kd, hX.room, hX.nd, hX.po⟩ b F H σ S W tW (fun _ _ _ _ _ _ _ z => z.elim) D L
section
variable {c : Ctx} {N : List Str} {env : Ev}
/-- d[k] of a name, what stands there being frozen -/
theorem e_dgetV {x : Str} {i : Nat} {kn : NameKind} {w : V} {ks0 : List (List Key)} {os0 : List O} {a : Expr} {p pos : Pos} {Φ : D → Ev → Prop} (hl : Look N env.vs x i (.raw w)) (hk : Kn c.nm x kn) (hv : visK kn = true) (hr : ResD env.rs w ks0 os0) (h : E c N env a fun y env2 => ∃ (ks : List (List Key)) (os : List O) (k : List Key) (z : D), ResD env2.rs w ks os ∧ y.key = some k ∧ dGet ks os k = some (.s z) ∧ Φ z env2) (hs : NoSl a) : E c N env (.Subscript (.Name x p) a pos) Φ :=
  e_dgetS (e_var hl hk hv (h.mono fun y env2 ⟨ks, os, k, z, h1, h2, h3, h4⟩ => ⟨w, ks, os, k, z, rfl, h1, h2, h3, h4⟩)) hs
/-- l[i] of a name, a list that is changed elsewhere -/
theorem e_ixRV {x : Str} {i : Nat} {kn : NameKind} {w : V} {os0 : List O} {f0 : O → Rs} {a : Expr} {p pos : Pos} {Φ : D → Ev → Prop} (hl : Look N env.vs x i (.raw w)) (hk : Kn c.nm x kn) (hv : visK kn = true) (hr : Res env.rs w (.l os0) f0) (h : E c N env a fun y env2 => ∃ os i z f, y = .int i ∧ Res env2.rs w (.l os) f ∧ atI os i = some (.s z) ∧ Φ z env2) (hs : PlainIx a) : E c N env (.Subscript (.Name x p) a pos) Φ :=
  e_ixR (e_var hl hk hv (h.mono fun y env2 ⟨os, i, z, f, h1, h2, h3, h4⟩ => ⟨w, os, i, z, f, rfl, h1, h2, h3, h4⟩)) hs
theorem t_inDV {x : Str} {i : Nat} {kn : NameKind} {w : V} {ks : List (List Key)} {os : List O} {a : Expr} {p pos : Pos} {Φ : Bool → Ev → Prop} (h : E c N env a fun y env2 => ∃ w ks os k i kn, Look N env2.vs x i (.raw w) ∧ Kn c.nm x kn ∧ visK kn = true ∧ ResD env2.rs w ks os ∧ y.key = some k ∧ Φ (hasK ks k) env2) (hm : behindInMarks .In (.Name x p) = false) : T c N env (.Compare a [.In] [.Name x p] pos) Φ :=
  t_in (h.mono fun y env2 ⟨w, ks, os, k, i, kn, h1, h2, h3, h4, h5, h6⟩ => e_var h1 h2 h3 ⟨_, _, _, h4.seen, h5, h6⟩) hm
theorem t_notinDV {x : Str} {i : Nat} {kn : NameKind} {w : V} {ks : List (List Key)} {os : List O} {a : Expr} {p pos : Pos} {Φ : Bool → Ev → Prop} (h : E c N env a fun y env2 => ∃ w ks os k i kn, Look N env2.vs x i (.raw w) ∧ Kn c.nm x kn ∧ visK kn = true ∧ ResD env2.rs w ks os ∧ y.key = some k ∧ Φ (!hasK ks k) env2) (hm : behindInMarks .NotIn (.Name x p) = false) : T c N env (.Compare a [.NotIn] [.Name x p] pos) Φ :=
  t_notin (h.mono fun y env2 ⟨w, ks, os, k, i, kn, h1, h2, h3, h4, h5, h6⟩ => e_var h1 h2 h3 ⟨_, _, _, h4.seen, h5, h6⟩) hm
end
end Y
namespace Y
open PySem L2
theorem e_rawN {c : Ctx} {N : List Str} {env : Ev} {x : Str} {i : Nat} {w : V} {a : Expr} {p pos : Pos} {Φ : D → Ev → Prop} (hl : Look N env.vs x i (.raw w)) (h : E c N env (.Subscript (.Name x p) a pos) Φ) : E c N env (.Subscript (.Name x p) a pos) Φ := h
end Y
namespace Y
open PySem L2
theorem op_divS {c : Ctx} {i j : Int} {Φ : D → Prop} (hj : 0 < j) (hb : j < 18446744073709551616) (h : Φ (.int (i / j))) : Op2 c (binaryOp .FloorDiv) (.int i) (.int j) Φ := op_divI hj (by
  have : (18446744073709551616 : Int) = ((2 ^ 64 : Nat) : Int) := by decide
  have h2 : ((2 ^ 64 : Nat) : Int) ≤ ((2 ^ 4000 : Nat) : Int) := Int.ofNat_le.mpr (Nat.pow_le_pow_right (by decide) (by decide))
  have h3 : ((2 ^ 4000 : Nat) : Int) = (2 : Int) ^ 4000 := Int.natCast_pow 2 4000
  omega) h
end Y
namespace Y
open PySem L2
section
variable {c : Ctx} {N : List Str}
/-- a comprehension whose elements are drawn: J of the resources, Pe of the k-th element -/
def Drn (c : Ctx) (N : List Str) (elt tg : Expr) (scope : Scope) (own : List (Str × Nat)) (Φ : List D → Ev → Prop) : List D → (Ev → Prop) → Ev → Prop := fun zs cond env1 =>
  ∃ (J : Rs → Prop) (Pe : Nat → D → Prop), J env1.rs ∧ zs.length ≤ 1000000 ∧ (∀ vs w os rs, J rs → cond ⟨vs, (w, .l os) :: rs⟩) ∧
    (∀ (k : Nat) (z : D) (rs : Rs), zs[k]? = some z → J rs → ∃ l, Bd N scope.names tg z l ∧ (∀ p ∈ l, p.1 ∈ own.map (·.2)) ∧ E (c.blk scope) N ⟨setsD (wipeV env1.vs (own.map (·.2))) l, rs⟩ elt fun y env3 => Pe k y ∧ J env3.rs) ∧
    (∀ ys rs, ys.length = zs.length → (∀ k y, ys[k]? = some y → Pe k y) → J rs → Φ ys ⟨env1.vs, rs⟩)
theorem lc_drn {env : Ev} {elt tg iter : Expr} {scope : Scope} {Φ : O → Ev → Prop} (own : List (Str × Nat)) (h : IT c N env tg iter (Drn c N elt tg scope own fun ys => Φ (.l (ys.map O.s)))) : LcOk c N env elt tg iter [] scope own Φ := by
  refine IT.mono h fun zs cond env1 h => ?_
  obtain ⟨J, Pe, h1, h2, h3, h4, h5⟩ := h
  refine ⟨fun k os rs => ∃ ys : List D, os = ys.map O.s ∧ ys.length = k ∧ (∀ j y, ys[j]? = some y → Pe j y) ∧ J rs, ⟨[], rfl, rfl, fun _ _ h => by simp at h, h1⟩, fun k os rs h w vs => ?_, h2, fun k z os rs hk _ h => ?_, fun os rs _ h => ?_⟩
  · obtain ⟨_, _, _, _, hj⟩ := h; exact h3 vs w os rs hj
  · obtain ⟨ys, rfl, e, hp, hj⟩ := h
    obtain ⟨l, b1, b2, he⟩ := h4 k z rs hk hj
    refine ⟨l, b1, b2, ts_nil ⟨fun h => (nomatch h), fun _ => E.toO (he.mono fun y env3 h => ?_)⟩⟩
    refine ⟨ys ++ [y], by simp, by simp [e], fun j y' hy => ?_, h.2⟩
    rw [List.getElem?_append] at hy
    by_cases q : j < ys.length
    · rw [if_pos q] at hy; exact hp j y' hy
    · rw [if_neg q] at hy
      cases e2 : j - ys.length with
      | zero => rw [e2] at hy; simp at hy; subst hy; obtain rfl : j = k := by omega
                exact h.1
      | succ n => rw [e2] at hy; simp at hy
  · obtain ⟨ys, rfl, e, hp, hj⟩ := h
    exact h5 ys rs e hp hj
theorem e_lcD {env : Ev} {elt tg iter : Expr} {scope : Scope} {pos : Pos} {Φ : D → Ev → Prop} (own : List (Str × Nat)) (hb : blkN N c.nm scope own = true) (h : IT c N env tg iter (Drn c N elt tg scope own fun ys => Φ (.lst ys)))
    (hs : ∀ env x, foldedSetIterable iter env x = pure x) : E c N env (.ListComp elt [⟨tg, iter, [], 0⟩] scope pos) Φ := by
  refine EO.toE (eo_lc own hb (Φ := fun t env1 => Φ t.fz env1) (lc_drn own (IT.mono h fun zs cond env1 h => ?_)) hs)
  obtain ⟨J, Pe, h1, h2, h3, h4, h5⟩ := h
  exact ⟨J, Pe, h1, h2, h3, h4, fun ys rs a b d => by have := h5 ys rs a b d; simpa only [O.fz, fzs_map] using this⟩
theorem s_setLcD {y : Str} {env : Ev} {i : Nat} {py spos : Pos} {elt tg iter : Expr} {scope : Scope} {pos : Pos} {Ψ : Post} (own : List (Str × Nat)) (hb : blkN N c.nm scope own = true) (h : IT c N env tg iter (Drn c N elt tg scope own fun ys env1 => ∃ f, Put N env1.vs y i f ∧ Ψ.nx ⟨f (.lst ys), env1.rs⟩)) (hk : Kn c.nm y .local) (hi : Ix N y i) (hs : ∀ env x, foldedSetIterable iter env x = pure x) (hl : (py.line == pos.line) = true) (ha : (scope.names.any fun (n, k) => n == y && (k == .local || k == .cell)) = false) : S1 c N env (.Assign [.Name y py] (.ListComp elt [⟨tg, iter, [], 0⟩] scope pos) spos) Ψ :=
  s_setLc own hb (lc_drn (Φ := fun z env1 => ∃ f, Put N env1.vs y i f ∧ Ψ.nx ⟨f z.fz, env1.rs⟩) own (IT.mono h fun zs cond env1 h => by
    obtain ⟨J, Pe, h1, h2, h3, h4, h5⟩ := h
    exact ⟨J, Pe, h1, h2, h3, h4, fun ys rs a b d => by have := h5 ys rs a b d; simpa only [O.fz, fzs_map] using this⟩)) hk hi hs hl ha
/-- the resources in another order -/
theorem less_refl : ∀ vs : List (Option D), Less vs vs
  | [] => rfl
  | d :: vs => ⟨d, vs, rfl, .inr rfl, less_refl vs⟩
theorem r_perm {vs : List (Option D)} {rs rs' : Rs} {st : List Stmt} {Ψ : Post} (p : rs.Perm rs') (h : R c N ⟨vs, rs'⟩ st Ψ) : R c N ⟨vs, rs⟩ st Ψ := R.ent ⟨less_refl vs, [], by simpa using p⟩ h
theorem r_sw {vs : List (Option D)} {a d : V × O} {rs : Rs} {st : List Stmt} {Ψ : Post} (h : R c N ⟨vs, d :: a :: rs⟩ st Ψ) : R c N ⟨vs, a :: d :: rs⟩ st Ψ := r_perm (.swap _ _ _) h
theorem r_rot {vs : List (Option D)} {a d e : V × O} {rs : Rs} {st : List Stmt} {Ψ : Post} (h : R c N ⟨vs, e :: a :: d :: rs⟩ st Ψ) : R c N ⟨vs, a :: d :: e :: rs⟩ st Ψ := r_perm ((List.Perm.swap e d rs).cons a |>.trans (.swap _ _ _)) h
/-- a name whose object is not changed any more -/
theorem VarsR.at_ {K : PySem.W.Frag} {F : Hp} : ∀ {N : List Str} {vs : List (Option D)} {σ : List (Option V)} {x : Str} {i : Nat} {w : V} {f : D → List (Option D)} {z : D}, VarsR K F vs σ → Look N vs x i (.raw w) → Put N vs x i f → Rep K F z w → VarsR K F (f z) σ
  | _, _, σ, _, _, w, _, z, h, .hd, .hd, r => by
    obtain ⟨x, σ', h1, h2, h3⟩ := h
    refine ⟨x, σ', h1, fun z' e => ?_, h3⟩
    obtain ⟨v, e1, e2⟩ := h2 _ rfl
    simp only [Rep] at e2
    cases e
    exact ⟨v, e1, by rw [e2]; exact r⟩
  | _, _, σ, _, _, w, _, z, h, .tl l, .tl p, r => by
    obtain ⟨x, σ', h1, h2, h3⟩ := h
    exact ⟨x, σ', h1, h2, h3.at_ l p r⟩
theorem r_frzV {vs : List (Option D)} {rs rs' : Rs} {x : Str} {i : Nat} {w : V} {t : O} {f : D → List (Option D)} {st : List Stmt} {Ψ : Post} (hl : Look N vs x i (.raw w)) (hp : Put N vs x i f) (ht : Tak rs w t rs') (h : R c N ⟨f t.fz, rs'⟩ st Ψ) : R c N ⟨vs, rs⟩ st Ψ := by
  intro X hX b F H σ S W tW xl D L
  have S2 : St c.K b F H σ (Ev.add ⟨vs, rs'⟩ w t) := ⟨S.le, S.vr, S.ow.perm ht.perm⟩
  obtain ⟨F', f1, S3, r⟩ := S2.freeze
  exact h X hX b F' H σ ⟨S3.le, S3.vr.at_ hl hp r, S3.ow⟩ W tW (xl.fe f1) D (L.fe f1)
end
end Y
namespace Y
open PySem L2
section
variable {c : Ctx} {N : List Str} {env : Ev}
/-- something new, kept as a resource -/
theorem e_own {e : Expr} {Φ : D → Ev → Prop} (h : EO c N env e fun t env1 => ∀ w, Φ (.raw w) ⟨env1.vs, (w, t) :: env1.rs⟩) : E c N env e Φ := by
  intro X hX b F H σ S W tW xl Q hQ
  refine h X hX b F H σ S W tW xl Q fun z env1 v F1 H1 h1 f1 S1 => ?_
  exact hQ (.raw v) _ v F1 H1 (h1 v) f1 S1 (by simp only [Rep])
end
end Y
namespace Y
open PySem L2
theorem t_rawL {c : Ctx} {N : List Str} {env : Ev} {x : Str} {i : Nat} {w : V} {os : List O} {f : O → Rs} {a : Expr} {op : CmpOp} {p pos : Pos} {Φ : Bool → Ev → Prop} (hl : Look N env.vs x i (.raw w)) (hr : Res env.rs w (.l os) f) (h : T c N env (.Compare a [op] [.Name x p] pos) Φ) : T c N env (.Compare a [op] [.Name x p] pos) Φ := h
theorem t_lstN {c : Ctx} {N : List Str} {env : Ev} {x : Str} {i : Nat} {zs : List D} {a : Expr} {op : CmpOp} {p pos : Pos} {Φ : Bool → Ev → Prop} (hl : Look N env.vs x i (.lst zs)) (h : T c N env (.Compare a [op] [.Name x p] pos) Φ) : T c N env (.Compare a [op] [.Name x p] pos) Φ := h
end Y
namespace Y
open PySem L2
theorem s_rawL {c : Ctx} {N : List Str} {env : Ev} {x : Str} {i : Nat} {w : V} {os : List O} {f : O → Rs} {a e : Expr} {p pos pos' : Pos} {Ψ : Post} (hl : Look N env.vs x i (.raw w)) (hr : Res env.rs w (.l os) f) (h : S1 c N env (.Assign [.Subscript (.Name x p) a pos'] e pos) Ψ) : S1 c N env (.Assign [.Subscript (.Name x p) a pos'] e pos) Ψ := h
end Y
namespace Y
open PySem L2
theorem eo_lcTF {c : Ctx} {N : List Str} {env : Ev} {elt tg iter : Expr} {ifs : List Expr} {scope : Scope} {pos : Pos} {Φ : O → Ev → Prop} (own : List (Str × Nat)) (hb : blkN N c.nm scope own = true) (h : IT c N env tg iter (ToldF c N elt tg ifs scope own fun ys => Φ (.l (ys.map O.s))))
    (hs : ∀ env x, foldedSetIterable iter env x = pure x) : EO c N env (.ListComp elt [⟨tg, iter, ifs, 0⟩] scope pos) Φ := eo_lc own hb (lc_toldF own h) hs
end Y
namespace Y
open PySem L2
theorem s_asgX {c : Ctx} {N : List Str} {env : Ev} {Ψ : Post} {tg e : Expr} {pos : Pos} (h : E c N env e fun z env1 => G c N env1 tg z Ψ.nx) (hs : ∀ env, swapsWithSole [tg] e pos.line env = pure false) (hw : ∀ X, Good c N X → swappedStores [tg] e X.env = pure none) (h1 : ∀ env, (assignEach [tg] env).map (·.2) = [assign tg env]) : S1 c N env (.Assign [tg] e pos) Ψ := by
  intro X hX b F H σ S W tW xl D L
  refine (ps_asg pe_wp pg_wp (hs _) (hw X hX) (h1 _)).wp ?_
  refine h X hX b F H σ S W tW xl _ fun z env1 v F1 H1 h1 f1 S1 r1 => ?_
  exact h1 X hX b F1 H1 σ S1 W tW (xl.fe f1) v r1 _ fun env2 σ2 F2 H2 h2 f2 S2 => L.nx _ _ _ _ h2 (f1.trans f2) S2
theorem swappedC {env : Env} {x y : Str} {px py pt pt2 : Pos} {e1 e2 : Expr} {kt k2 : Nat} (hx : env.scope.names.lookup x = some .cell ∨ env.scope.names.lookup y = some .cell) (h1 : ([e1, e2].any fun | .Starred .. => true | _ => false) = false) :
    swappedStores [.Tuple [.Name x px, .Name y py] kt pt] (.Tuple [e1, e2] k2 pt2) env = pure none := by
  unfold swappedStores
  dsimp only
  by_cases hb : (env.blockKind != .function) = true
  · simp [hb]
  · have hb' : (env.blockKind != .function) = false := by simpa using hb
    simp only [hb', List.length_cons, List.length_nil]
    rw [if_neg (by simp)]
    refine (if_neg (fun z => absurd (h1.symm.trans z) (by decide))).trans ?_
    have kx : (env.kindOf x == some .local) = false ∨ (env.kindOf y == some .local) = false := by
      rcases hx with hx | hx
      · left; show (env.scope.names.lookup x == some .local) = false; rw [hx]; rfl
      · right; show (env.scope.names.lookup y == some .local) = false; rw [hx]; rfl
    have hlen : ∀ L : Nat, ((List.filterMap (fun t : Expr => match t with
        | .Name id pos => if (env.kindOf id == some .local && pos.line == L) = true then some id else none
        | _ => none) [.Name x px, .Name y py]).length != 2) = true := by
      intro L
      rcases kx with kx | kx
      · simp only [List.filterMap_cons, List.filterMap_nil, kx, Bool.false_and, Bool.false_eq_true, if_false]
        split <;> rfl
      · simp only [List.filterMap_cons, List.filterMap_nil, kx, Bool.false_and, Bool.false_eq_true, if_false]
        split <;> rfl
    refine (if_pos ?_).trans rfl
    rw [Bool.or_eq_true]
    exact .inl (hlen _)
theorem s_parC {c : Ctx} {N : List Str} {env : Ev} {Ψ : Post} {x y : Str} {i j : Nat} {e1 e2 : Expr} {px py pt pt2 pos : Pos} {kt k2 : Nat} {kx ky : NameKind} (h : EA c N env [e1, e2] fun zs env1 => ∃ z1 z2 f, zs = [z1, z2] ∧ Put N env1.vs x i f ∧ ∃ g, Put N (f z1) y j g ∧ Ψ.nx ⟨g z2, env1.rs⟩)
    (hkx : Kn c.nm x kx) (hky : Kn c.nm y ky) (hi : Ix N x i) (hj : Ix N y j) (hvx : locK kx = true) (hvy : locK ky = true) (hc : kx = .cell ∨ ky = .cell) (h1 : ([e1, e2].any fun | .Starred .. => true | _ => false) = false) (hs : ∀ env, swapsWithSole [.Tuple [.Name x px, .Name y py] kt pt] (.Tuple [e1, e2] k2 pt2) pos.line env = pure false) :
    S1 c N env (.Assign [.Tuple [.Name x px, .Name y py] kt pt] (.Tuple [e1, e2] k2 pt2) pos) Ψ := by
  refine s_asgX (e_tup ?_) hs (fun X hX => swappedC ?_ h1) (by intro _; rfl)
  · intro X hX b F H σ S W tW xl Q hQ
    refine h X hX b F H σ S W tW xl Q fun zs env1 vs F1 H1 hz f1 S1 r => hQ zs env1 vs F1 H1 ?_ f1 S1 r
    obtain ⟨z1, z2, f, rfl, p1, g, p2, hn⟩ := hz
    exact ⟨by simp, g_tup (gs_cons (g_name p1 hkx hvx (gs_cons (g_name p2 hky hvy (gs_nil hn)) (by intro _; rfl))) (by intro _; rfl)) rfl (by intro _; rfl) (by intro _; rfl)⟩
  · rcases hc with rfl | rfl
    · left
      rcases hX.kn x _ hkx.mem with e | ⟨e, _⟩
      · exact e
      · cases e
    · right
      rcases hX.kn y _ hky.mem with e | ⟨e, _⟩
      · exact e
      · cases e
end Y
namespace Y
open PySem L2
theorem e_back {c : Ctx} {N : List Str} {env : Ev} {e : Expr} {Φ : D → Ev → Prop} (h : E c N env e fun z env1 => ∃ (v : V) (t : O) (rs1 : Rs) (w : V) (t0 t1 : O) (f : O → Rs), Tak env1.rs v t rs1 ∧ Res rs1 w t0 f ∧ Back t0 v t t1 ∧ Φ z ⟨env1.vs, f t1⟩) : E c N env e Φ := by
  intro X hX b F H σ S W tW xl Q hQ
  refine h X hX b F H σ S W tW xl Q fun z env1 v F1 H1 h1 f1 S1 r => ?_
  obtain ⟨v', t, rs1, w, t0, t1, f, g1, g2, g3, g4⟩ := h1
  exact hQ z _ v F1 H1 g4 f1 (S1.back g1 g2 g3) r
end Y
namespace Y
open PySem L2
theorem e_rawNN {c : Ctx} {N : List Str} {env : Ev} {x : Str} {i : Nat} {w : V} {a a2 : Expr} {p pos pos2 : Pos} {Φ : D → Ev → Prop} (hl : Look N env.vs x i (.raw w)) (h : E c N env (.Subscript (.Subscript (.Name x p) a pos) a2 pos2) Φ) : E c N env (.Subscript (.Subscript (.Name x p) a pos) a2 pos2) Φ := h
theorem e_rawNL {c : Ctx} {N : List Str} {env : Ev} {x : Str} {i : Nat} {w : V} {os : List O} {f : O → Rs} {a a2 : Expr} {p pos pos2 : Pos} {Φ : D → Ev → Prop} (hl : Look N env.vs x i (.raw w)) (hr : Res env.rs w (.l os) f) (h : E c N env (.Subscript (.Subscript (.Name x p) a pos) a2 pos2) Φ) : E c N env (.Subscript (.Subscript (.Name x p) a pos) a2 pos2) Φ := h
end Y
namespace Y
open PySem L2
theorem w_resV {c : Ctx} {N : List Str} {env : Ev} {x : Str} {i : Nat} {k : NameKind} {w : V} {t : O} {f : O → Rs} {p : Pos} {Φ : D → Ev → Prop} (hl : Look N env.vs x i (.raw w)) (hk : Kn c.nm x k) (hv : visK k = true) (hr : Res env.rs w t f) (h : Φ t.fz env) : Wv c N env (.Name x p) Φ :=
  w_res (f := f) (w := w) (t := t) (e_var hl hk hv ⟨w, t, f, rfl, hr, h⟩)
theorem cz_lenU {c : Ctx} {env : Ev} {u : Un} {Φ : D → Prop} (h : Φ (.int (u.length : Nat))) : ∃ ys, Seens env [un u] ys ∧ Cb c (.builtin "len") ys Φ := ⟨_, .frs _, cb_len_seq (zs := u.map fr) rfl (by rw [List.length_map]; exact h)⟩
theorem cz_lenG {c : Ctx} {env : Ev} {b : Nat} {R : GR b} {Φ : D → Prop} (h : Φ (.int (R.length : Nat))) : ∃ ys, Seens env [grU R] ys ∧ Cb c (.builtin "len") ys Φ := ⟨_, .frs _, cb_len_seq (zs := R.map rwU) rfl (by rw [List.length_map]; exact h)⟩
theorem cz_lenW {c : Ctx} {env : Ev} {b : Nat} {r : List (Option (U b))} {Φ : D → Prop} (h : Φ (.int (r.length : Nat))) : ∃ ys, Seens env [rwU r] ys ∧ Cb c (.builtin "len") ys Φ := ⟨_, .frs _, cb_len_seq (zs := r.map clU) rfl (by rw [List.length_map]; exact h)⟩
end Y
namespace Y
open PySem L2
section
variable {c : Ctx} {N : List Str} {env : Ev}
/-- a new dict with nothing in it -/
theorem eo_d0 {pos : Pos} {Φ : O → Ev → Prop} (h : Φ (.d [] []) env) : EO c N env (.Dict [] [] pos) Φ := by
  intro X hX b F H σ S W tW xl Q hQ
  refine pe_dnewT.wp ?_
  intro p hp
  have l := Le.newO (o := .dT []) S.wf True.intro hp
  refine hQ _ env _ _ _ h (.refl _) (S.push l ?_)
  simp only [Own]
  exact ⟨p, [], rfl, hp, S.wf.fresh hp, upd_same, rfl, .nil⟩
end
end Y
namespace Y
open PySem L2
section
variable {c : Ctx} {N : List Str} {env : Ev}
theorem eo_dk0 {pos : Pos} {Φ : O → Ev → Prop} (h : Φ (.dk [] []) env) : EO c N env (.Dict [] [] pos) Φ := by
  intro X hX b F H σ S W tW xl Q hQ
  refine pe_dnewK.wp ?_
  intro p hp
  have l := Le.newO (o := .dK []) S.wf True.intro hp
  refine hQ _ env _ _ _ h (.refl _) (S.push l ?_)
  simp only [Own]
  exact ⟨p, [], rfl, hp, S.wf.fresh hp, upd_same, rfl, .nil⟩
end
/-- what isinstance asks of a class of the program's own -/
structure IsiC (K : PySem.W.Frag) (C : Addr) : Prop where
  cl : Cls K C
  ha : PySem.W.findIn K (.ref C) "__class__" = some (some (.builtin "object.__class__"))
  hn : PySem.W.specialIn K (.builtin "object.__class__") "__get__" = some (some (.builtin "getset_descriptor.__get__"))
  ht : PySem.W.takesIn K (.builtin "object.__class__") = some true
  hm : PySem.W.mroIn K C (.type "object") = some true
  kt : PySem.W.kitOne K (.ref C) (.type "tuple") = some false
  ki : PySem.W.kitOne K (.ref C) (.type "int") = some false
/-- things of all kinds -/
inductive Odd (C : Addr) : D → Prop
  | non : Odd C .non
  | bl (b : Bool) : Odd C (.bl b)
  | int (i : Int) : Odd C (.int i)
  | str (s : Str) : Odd C (.str s)
  | lst (zs : List D) : Odd C (.lst zs)
  | dik (ks : List Key) (zs : List D) : Odd C (.dik ks zs)
  | ins (ns : List Str) (zs : List D) : Odd C (.ins C ns zs)
  | tup {zs : List D} : zs.length ≤ 1000 → (∀ z ∈ zs, Odd C z) → Odd C (.tup zs)
def isT : D → Bool
  | .tup _ => true
  | _ => false
def isI : D → Bool
  | .int _ => true
  | .bl _ => true
  | _ => false
def isB : D → Bool
  | .bl _ => true
  | _ => false
theorem odd_ty {K : PySem.W.Frag} {H : Hp} {C : Addr} (I : IsiC K C) {z : D} {v : V} (o : Odd C z) (r : Rep K H z v) : ∃ t, TyX K H v t ∧ PySem.W.kitOne K t (.type "tuple") = some (isT z) ∧ PySem.W.kitOne K t (.type "int") = some (isI z) := by
  cases o with
  | non => exact ⟨_, r.ty rfl, kit_ty (by dsimp only [isT, isI]; decide +kernel), kit_ty (by dsimp only [isT, isI]; decide +kernel)⟩
  | bl b => exact ⟨_, r.ty rfl, kit_ty (by dsimp only [isT, isI]; decide +kernel), kit_ty (by dsimp only [isT, isI]; decide +kernel)⟩
  | int i => exact ⟨_, r.ty rfl, kit_ty (by dsimp only [isT, isI]; decide +kernel), kit_ty (by dsimp only [isT, isI]; decide +kernel)⟩
  | str s => exact ⟨_, r.ty rfl, kit_ty (by dsimp only [isT, isI]; decide +kernel), kit_ty (by dsimp only [isT, isI]; decide +kernel)⟩
  | lst zs => exact ⟨_, r.ty rfl, kit_ty (by dsimp only [isT, isI]; decide +kernel), kit_ty (by dsimp only [isT, isI]; decide +kernel)⟩
  | dik ks zs =>
    simp only [Rep] at r
    obtain ⟨a, vs, rfl, h, _⟩ := r
    refine ⟨.type "dict", ?_, kit_ty (by dsimp only [isT, isI]; decide +kernel), kit_ty (by dsimp only [isT, isI]; decide +kernel)⟩
    rcases h with h | ⟨o, h⟩
    · exact .base (.dK h)
    · exact .fDict h
  | ins ns zs =>
    simp only [Rep] at r
    obtain ⟨a, dx, vs, rfl, h, _⟩ := r
    exact ⟨.ref C, .base (.ins h I.cl I.ha I.hn I.ht I.hm), I.kt, I.ki⟩
  | tup _ h => exact ⟨_, r.ty rfl, kit_ty (by dsimp only [isT, isI]; decide +kernel), kit_ty (by dsimp only [isT, isI]; decide +kernel)⟩
section
variable {c : Ctx} {N : List Str} {env : Ev} {C : Addr}
theorem cz_isT (I : IsiC c.K C) {z : D} {Φ : D → Prop} (o : Odd C z) (h : Φ (.bl (isT z))) : ∃ ys, Seens env [z, .raw (.ty "tuple")] ys ∧ Cb c (.builtin "isinstance") ys Φ := by
  refine ⟨_, .frs _, ?_⟩
  intro N X hX F H wf vs rr Q hQ
  simp only [Reps, Rep] at rr
  obtain ⟨v, _, rfl, r1, _, _, rfl, rfl, rfl⟩ := rr
  obtain ⟨t, h1, h2, _⟩ := odd_ty I o r1
  exact call_isi.wp ⟨v, _, t, .type "tuple", _, rfl, .ty _, by rw [hX.gK]; exact h1, by rw [hX.gK]; exact h2, hQ _ _ F H h (.refl wf) (by simp only [Rep])⟩
theorem cz_isI (I : IsiC c.K C) {z : D} {Φ : D → Prop} (o : Odd C z) (h : Φ (.bl (isI z))) : ∃ ys, Seens env [z, .raw (.ty "int")] ys ∧ Cb c (.builtin "isinstance") ys Φ := by
  refine ⟨_, .frs _, ?_⟩
  intro N X hX F H wf vs rr Q hQ
  simp only [Reps, Rep] at rr
  obtain ⟨v, _, rfl, r1, _, _, rfl, rfl, rfl⟩ := rr
  obtain ⟨t, h1, _, h2⟩ := odd_ty I o r1
  exact call_isi.wp ⟨v, _, t, .type "int", _, rfl, .ty _, by rw [hX.gK]; exact h1, by rw [hX.gK]; exact h2, hQ _ _ F H h (.refl wf) (by simp only [Rep])⟩
end
end Y
namespace Y
open PySem L2
theorem reps_sh {K : PySem.W.Frag} {F H : Hp} : ∀ {zs : List D} {vs : List V} {A : Addr → Prop}, Owns K F H (zs.map O.s) vs A → Reps K F zs vs
  | [], vs, A, h => by simp only [List.map_nil, Owns] at h; subst h; simp only [Reps]
  | z :: zs, vs, A, h => by
    simp only [List.map_cons, Owns, Own] at h
    obtain ⟨v, vs', B, rfl, h1, h2⟩ := h
    simp only [Reps]
    exact ⟨v, vs', rfl, h1, reps_sh h2⟩
section
variable {c : Ctx} {N : List Str} {env : Ev}
/-- a list of an owned name with a new list behind it, laid anew -/
theorem eo_catL {a d : Expr} {pos : Pos} {Φ : O → Ev → Prop} (h : E c N env a fun x env1 => EO c N env1 d fun t2 env2 => ∃ (w : V) (f1 : O → Rs) (zs1 zs2 : List D), x = .raw w ∧ t2 = .l (zs2.map O.s) ∧ Res env2.rs w (.l (zs1.map O.s)) f1 ∧ zs1.length + zs2.length ≤ 100000 ∧ Φ (.l ((zs1 ++ zs2).map O.s)) env2) : EO c N env (.BinOp a .Add d pos) Φ := by
  intro X hX b F H σ S W tW xl Q hQ
  refine (pe_op op_cat pe_wp pe_wp).wp ?_
  refine h X hX b F H σ S W tW xl _ fun x env1 vx F1 H1 h1 f1 S1 r1 => ?_
  refine h1 X hX b F1 H1 σ S1 W tW (xl.fe f1) _ fun t2 env2 v2 F2 H2 h2 f2 S2 => ?_
  obtain ⟨w, g1, zs1, zs2, rfl, rfl, hr, hl, hp⟩ := h2
  simp only [Rep] at r1
  obtain rfl : w = vx := r1.symm
  obtain ⟨B2, o2, _⟩ := S2.res (.hd (w := v2) (t := .l (zs2.map O.s)))
  obtain ⟨B1, o1, _⟩ := S2.res (Res.tl (r := (v2, .l (zs2.map O.s))) hr)
  simp only [Own] at o1 o2
  obtain ⟨a2, u2, rfl, _, _, e2, ow2⟩ := o2
  obtain ⟨a1, u1, rfl, _, _, e1, ow1⟩ := o1
  have q1 := reps_sh ow1
  have q2 := reps_sh ow2
  obtain ⟨F3, f3, S3, _⟩ := S2.freeze
  refine ⟨a1, a2, u1, u2, rfl, rfl, e1, e2, by rw [← q1.length, ← q2.length]; exact Nat.le_trans hl (by decide), fun p hp0 => ?_⟩
  have l := Le.newO (o := .lst (u1 ++ u2)) S3.wf True.intro hp0
  refine hQ _ env2 _ _ _ hp ((f1.trans f2).trans f3) (S3.push l ?_)
  simp only [Own]
  exact ⟨p, u1 ++ u2, rfl, hp0, S3.wf.fresh hp0, upd_same, owns_sh ((f3.reps q1).append (f3.reps q2))⟩
/-- a constant ahead of other arguments (the literal itself is not looked into) -/
theorem ea_const {k : Const} {j : Nat} {pos : Pos} {es : List Expr} {Φ : List D → Ev → Prop} (h : E c N env (.Constant k j pos) fun x env1 => EA c N env1 es fun xs env2 => Φ (x :: xs) env2) : EA c N env (.Constant k j pos :: es) Φ := ea_cons h (by intro _; rfl)
theorem ea_tuple {l : List Expr} {j : Nat} {pos : Pos} {es : List Expr} {Φ : List D → Ev → Prop} (h : E c N env (.Tuple l j pos) fun x env1 => EA c N env1 es fun xs env2 => Φ (x :: xs) env2) : EA c N env ((.Tuple l j pos) :: es) Φ := ea_cons h (by intro _; rfl)
theorem ea_list {l : List Expr} {pos : Pos} {es : List Expr} {Φ : List D → Ev → Prop} (h : E c N env (.List l pos) fun x env1 => EA c N env1 es fun xs env2 => Φ (x :: xs) env2) : EA c N env ((.List l pos) :: es) Φ := ea_cons h (by intro _; rfl)
theorem ea_dict {l : List (Option Expr)} {m : List Expr} {pos : Pos} {es : List Expr} {Φ : List D → Ev → Prop} (h : E c N env (.Dict l m pos) fun x env1 => EA c N env1 es fun xs env2 => Φ (x :: xs) env2) : EA c N env ((.Dict l m pos) :: es) Φ := ea_cons h (by intro _; rfl)
theorem ea_name {x : Str} {pos : Pos} {es : List Expr} {Φ : List D → Ev → Prop} (h : E c N env (.Name x pos) fun x env1 => EA c N env1 es fun xs env2 => Φ (x :: xs) env2) : EA c N env ((.Name x pos) :: es) Φ := ea_cons h (by intro _; rfl)
theorem ea_bin {p q : Expr} {o : Operator} {pos : Pos} {es : List Expr} {Φ : List D → Ev → Prop} (h : E c N env (.BinOp p o q pos) fun x env1 => EA c N env1 es fun xs env2 => Φ (x :: xs) env2) : EA c N env ((.BinOp p o q pos) :: es) Φ := ea_cons h (by intro _; rfl)
theorem ea_un {p : Expr} {o : UnaryOp} {pos : Pos} {es : List Expr} {Φ : List D → Ev → Prop} (h : E c N env (.UnaryOp o p pos) fun x env1 => EA c N env1 es fun xs env2 => Φ (x :: xs) env2) : EA c N env ((.UnaryOp o p pos) :: es) Φ := ea_cons h (by intro _; rfl)
theorem ea_call {p : Expr} {l : List Expr} {m : List Keyword} {pos : Pos} {es : List Expr} {Φ : List D → Ev → Prop} (h : E c N env (.Call p l m pos) fun x env1 => EA c N env1 es fun xs env2 => Φ (x :: xs) env2) : EA c N env ((.Call p l m pos) :: es) Φ := ea_cons h (by intro _; rfl)
theorem ea_sub {p q : Expr} {pos : Pos} {es : List Expr} {Φ : List D → Ev → Prop} (h : E c N env (.Subscript p q pos) fun x env1 => EA c N env1 es fun xs env2 => Φ (x :: xs) env2) : EA c N env ((.Subscript p q pos) :: es) Φ := ea_cons h (by intro _; rfl)
end
end Y
namespace Y
open PySem L2
section
variable {c : Ctx} {N : List Str} {env : Ev}
/-- flags told apart by what they are -/
theorem op_isB {k l : Bool} {Φ : D → Prop} (h : Φ (.bl (k == l))) : Op2 c (compareOp .Is) (.bl k) (.bl l) Φ := fun N X hX F H wf vx vy rx ry Q hQ pins s σ v u I r1 r2 => by
  simp only [Rep] at rx ry
  subst rx ry
  cases r1; cases r2
  exact PyProof.Rows.is_bool ⟨.bl _, H, I, rfl, hQ _ _ F H h (.refl wf) (by simp only [Rep])⟩
theorem op_isnB {k l : Bool} {Φ : D → Prop} (h : Φ (.bl (k != l))) : Op2 c (compareOp .IsNot) (.bl k) (.bl l) Φ := fun N X hX F H wf vx vy rx ry Q hQ pins s σ v u I r1 r2 => by
  simp only [Rep] at rx ry
  subst rx ry
  cases r1; cases r2
  exact PyProof.Rows.isnot_bool ⟨.bl _, H, I, rfl, hQ _ _ F H h (.refl wf) (by simp only [Rep])⟩
theorem ep_none {Φ : Option Int → Ev → Prop} (h : Φ none env) : EP c N env none Φ := h
theorem ep_some {e : Expr} {Φ : Option Int → Ev → Prop} (h : E c N env e fun x env1 => ∃ i, x = .int i ∧ Φ (some i) env1) : EP c N env (some e) Φ := h
end
/-! things of all kinds -/
section
variable {C : Addr}
theorem Odd.ints {l : List Int} (h : l.length ≤ 1000) : Odd C (.tup (l.map D.int)) := .tup (by simpa using h) fun z hz => by
  obtain ⟨i, _, rfl⟩ := List.mem_map.mp hz
  exact .int i
theorem Odd.one {x : D} (h : Odd C x) : Odd C (.tup [x]) := .tup (by simp) fun z hz => by rw [List.mem_singleton.mp hz]; exact h
theorem Odd.two {x y : D} (h : Odd C x) (g : Odd C y) : Odd C (.tup [x, y]) := .tup (by simp) fun z hz => by
  rcases List.mem_cons.mp hz with rfl | hz
  · exact h
  · rw [List.mem_singleton.mp hz]; exact g
theorem Odd.three {x y u : D} (h : Odd C x) (g : Odd C y) (k : Odd C u) : Odd C (.tup [x, y, u]) := .tup (by simp) fun z hz => by
  rcases List.mem_cons.mp hz with rfl | hz
  · exact h
  · rcases List.mem_cons.mp hz with rfl | hz
    · exact g
    · rw [List.mem_singleton.mp hz]; exact k
theorem Odd.nil : Odd C (.tup []) := .tup (by simp) fun z hz => by simp at hz
theorem Odd.fr (q : Rat) : Odd C (fr q) := .two (.int _) (.int _)
theorem Odd.un {u : Un} (h : u.length ≤ 1000) : Odd C (un u) := .tup (by simpa using h) fun z hz => by
  obtain ⟨q, _, rfl⟩ := List.mem_map.mp hz
  exact .fr q
theorem Odd.uD {b : Nat} {u : U b} (h : b ≤ 1000) : Odd C (uD u) := .un (by rw [u.2]; exact h)
theorem Odd.items {xs : List D} (h : Odd C (.tup xs)) : xs.length ≤ 1000 ∧ ∀ x ∈ xs, Odd C x := by
  cases h with
  | tup h g => exact ⟨h, g⟩
theorem Odd.cat {xs ys : List D} (h : Odd C (.tup xs)) (g : Odd C (.tup ys)) (hl : xs.length + ys.length ≤ 1000) : Odd C (.tup (xs ++ ys)) := .tup (by simpa using hl) fun z hz => by
  rcases List.mem_append.mp hz with hz | hz
  · exact h.items.2 z hz
  · exact g.items.2 z hz
theorem cutD_mem {xs : List D} {lo hi : Option Int} {z : D} (h : z ∈ cutD xs lo hi) : z ∈ xs := by
  unfold cutD at h
  exact List.mem_of_mem_drop (List.mem_of_mem_take h)
theorem cutD_len {xs : List D} {lo hi : Option Int} : (cutD xs lo hi).length ≤ xs.length := by
  unfold cutD
  rw [List.length_take, List.length_drop]
  omega
theorem Odd.cut {xs : List D} {lo hi : Option Int} (h : Odd C (.tup xs)) : Odd C (.tup (cutD xs lo hi)) := .tup (Nat.le_trans cutD_len h.items.1) fun z hz => h.items.2 z (cutD_mem hz)
theorem r_oddL {c : Ctx} {N : List Str} {vs : List (Option D)} {w : V} {zs : List D} {rs : Rs} {st : List Stmt} {Ψ : Post} (n : Nat) (hn : zs.length = n) (ho : ∀ y ∈ zs, Odd C y) (h : ∀ zs' : List D, (∀ y ∈ zs', Odd C y) → zs'.length = n → R c N ⟨vs, (w, .l (zs'.map O.s)) :: rs⟩ st Ψ) : R c N ⟨vs, (w, .l (zs.map O.s)) :: rs⟩ st Ψ := h zs ho hn
end
end Y
namespace Y
open PySem L2
section
variable {c : Ctx} {N : List Str} {env : Ev}
/-- range(a, b) -/
theorem it_rng2 {tg a d : Expr} {p pos : Pos} {Φ : List D → (Ev → Prop) → Ev → Prop} (hm : c.g.mg "range" = none) (hk : Kn c.nm "range" .globalImplicit) (h : EA c N env [a, d] fun zs env1 => ∃ lo hi : Int, zs = [.int lo, .int hi] ∧ -(2 ^ 62) ≤ lo ∧ lo < 2 ^ 62 ∧ -(2 ^ 62) ≤ hi ∧ hi < 2 ^ 62 ∧ Φ ((List.range (hi - lo).toNat).map fun i => D.int (lo + (i : Nat))) (fun _ => True) env1)
    (hs : ∀ env, starEach [a, d] env = [(false, eval a env), (false, eval d env)]) (hs2 : ∀ env, starEach [d] env = [(false, eval d env)]) : IT c N env tg (.Call (.Name "range" p) [a, d] [] pos) Φ := by
  intro X hX b F H σ S W tW xl Rr hR
  refine (pi_range2 (hX.gl hk) (by rw [hX.gmg]; exact hm) pa_wp (hs _) (hs2 _)).wp ?_
  refine h X hX b F H σ S W tW xl _ fun zs env1 vs F1 H1 h1 f1 S1 r1 => ?_
  obtain ⟨lo, hi, rfl, b1, b2, b3, b4, hz⟩ := h1
  simp only [Reps, Rep] at r1
  obtain ⟨_, _, rfl, rfl, _, _, rfl, rfl, rfl⟩ := r1
  exact ⟨lo, hi, rfl, ⟨b1, b2, b3, b4⟩, hR _ _ env1 _ F1 H1 hz f1 S1 ylds_range⟩
/-- x in a list, as a value -/
theorem e_inL {a d : Expr} {pos : Pos} {Φ : D → Ev → Prop} (h : E c N env a fun y env1 => E c N env1 d fun x env2 => ∃ (zs : List D) (n : Nat), Seen env2 x (.lst zs) ∧ Pl n y ∧ (∀ z ∈ zs, Pl n z) ∧ n ≤ 60 ∧ Φ (.bl (isInD y zs)) env2) (hm : behindInMarks .In d = false) : E c N env (.Compare a [.In] [d] pos) Φ := by
  intro X hX b F H σ S W tW xl Q hQ
  refine (pe_cmpR (op_inD (room65 hX.room)) pe_wp pe_wp hm).wp ?_
  refine h X hX b F H σ S W tW xl _ fun y env1 vy F1 H1 h1 f1 S1 r1 => ?_
  refine h1 X hX b F1 H1 σ S1 W tW (xl.fe f1) _ fun x env2 vx F2 H2 h2 f2 S2 r2 => ?_
  obtain ⟨zs, n, hs, hy, hz, hn, hp⟩ := h2
  have pl := Pl.lst hz
  refine ⟨y.py, D.pys zs, by rw [hX.gK]; exact Rep.dp y vy hy.pl (Rep.mono S2.wf.ex _ _ (f2.rep r1)), ?_, hy.sh (by omega), ?_, ?_⟩
  · have q := Rep.dp _ vx pl.pl (S2.seen r2 hs)
    rw [hX.gK]
    simpa only [D.py] using q
  · have q := pl.sh (by omega)
    simpa only [D.py] using q
  · rw [pys_any]
    exact hQ _ env2 _ F2 H2 hp (f1.trans f2) S2 (by simp only [Rep])
/-- [[] for x in ..] -/
theorem lc_emp {tg iter : Expr} {p : Pos} {scope : Scope} {Φ : O → Ev → Prop} (own : List (Str × Nat)) (h : IT c N env tg iter fun zs cond env1 => zs.length ≤ 1000000 ∧ (∀ vs w os, cond ⟨vs, (w, .l os) :: env1.rs⟩) ∧ (∀ z ∈ zs, ∃ l, Bd N scope.names tg z l ∧ ∀ p ∈ l, p.1 ∈ own.map (·.2)) ∧ Φ (.l (List.replicate zs.length (.l []))) env1) : LcOk c N env (.List [] p) tg iter [] scope own Φ := by
  refine IT.mono h fun zs cond env1 ⟨h1, h2, h3, h4⟩ => ?_
  refine ⟨fun k os rs => os = List.replicate k (.l []) ∧ rs = env1.rs, ⟨rfl, rfl⟩, fun k os rs ⟨e1, e2⟩ w vs => by rw [e2]; exact h2 vs w os, h1, fun k z os rs hz _ ⟨e1, e2⟩ => ?_, fun os rs _ ⟨e1, e2⟩ => by rw [e1, e2]; exact h4⟩
  obtain ⟨l, h5, h6⟩ := h3 z (List.mem_of_getElem? hz)
  refine ⟨l, h5, h6, ts_nil ?_⟩
  exact ⟨fun h => (nomatch h), fun _ => eo_nil (show _ ∧ _ from ⟨by rw [e1, List.replicate_succ'], e2⟩)⟩
theorem s_newLcE {y : Str} {i : Nat} {py spos : Pos} {tg iter : Expr} {p : Pos} {scope : Scope} {pos : Pos} {Ψ : Post} (own : List (Str × Nat)) (hb : blkN N c.nm scope own = true)
    (h : IT c N env tg iter fun zs cond env1 => zs.length ≤ 1000000 ∧ (∀ vs w os, cond ⟨vs, (w, .l os) :: env1.rs⟩) ∧ (∀ z ∈ zs, ∃ l, Bd N scope.names tg z l ∧ ∀ p ∈ l, p.1 ∈ own.map (·.2)) ∧ ∀ w, ∃ f, Put N env1.vs y i f ∧ Ψ.nx ⟨f (.raw w), (w, .l (List.replicate zs.length (.l []))) :: env1.rs⟩) (hk : Kn c.nm y .local) (hi : Ix N y i)
    (hs : ∀ env x, foldedSetIterable iter env x = pure x) (hl : (py.line == pos.line) = true) (ha : (scope.names.any fun (n, k) => n == y && (k == .local || k == .cell)) = false) :
    S1 c N env (.Assign [.Name y py] (.ListComp (.List [] p) [⟨tg, iter, [], 0⟩] scope pos) spos) Ψ :=
  s_newLc own hb (lc_emp (Φ := fun z env1 => ∀ w, ∃ f, Put N env1.vs y i f ∧ Ψ.nx ⟨f (.raw w), (w, z) :: env1.rs⟩) own h) hk hi hs hl ha
end
end Y
namespace Y
open PySem L2
/-! ### the end of a law -/
def S_law : Spec := fun zs rs P _ => ∃ ns : List Int, zs = [.lst (ns.map D.int)] ∧ rs = [] ∧ ns.length ≤ 63 ∧ P (.s (.bl true)) []
theorem reps_ints {K : PySem.W.Frag} {F : Hp} : ∀ ns : List Int, Reps K F (ns.map D.int) (ns.map V.int)
  | [] => .nil
  | n :: ns => .cons (by simp only [Rep]) (reps_ints ns)
theorem sp_law {K : PySem.W.Frag} {H : Hp} {a : Addr} {ns : List Int} (hl : ns.length ≤ 63) (hS : SqL K H a (ns.map V.int)) : spOf K S_law [.ref a] H (fun v _ => v = .bl true) fun _ _ _ => False := by
  refine ⟨(H, H), H, [.lst (ns.map D.int)], [], fun z rs => z = .s (.bl true), fun _ _ => False, Le.refl ⟨.refl H, fun _ _ h => h⟩, .one ?_, .nil, ⟨ns, rfl, rfl, hl, rfl⟩, fun z rs' v F' H' p _ _ h => ?_, fun _ _ _ _ _ p => p.elim⟩
  · simp only [Rep]
    exact ⟨a, _, rfl, hS, reps_ints ns⟩
  · subst p
    obtain ⟨B, h1, _⟩ := RsR.uncons h
    simp only [Own, Rep] at h1
    exact h1
theorem walkY {l : PySem.W.OpenLaw} {k : Nat} {q : Program} {loose : List Str} {XP : (Str → Option Value) → Heap → Prop} {YP : World → Heap → Prop} {d : DefRec} {x : Str} (hn : l.most = some 63) (hdf : d.params.defaults = []) (hr : Room k callerA)
    (F : ∀ (w : World) (mg : Str → Option Value) (fa : Addr) (h : Heap), YP w h → h.Ns mainGlobals mg → mg d.name = some (.ref fa) →
      ∃ (K : PySem.W.Frag) (fd : FuncData), K.In h ∧ (∀ (s : Shared) (u : Value), BindsTo s fd ⟨[u], []⟩ [(x, u)]) ∧ ∀ base : Heap, K.In base → base.Ns mainGlobals mg → FnOk l.prog w K mg base (L2.CX l.prog w) k fa fd [x] (spOf K S_law)) :
    PySem.W.WalkO q loose XP YP l.row.toRowW d [] (fun f vs => PySem.call f vs) := by
  refine Att.attach_call hn hdf fun w s₀ s₁ mg mb fa o pm cd doc a vs ns G Yh ho hd hcd hmg hobj hints hlen hg => ?_
  obtain ⟨K, fd, KX, hb, hF⟩ := F w mg fa _ Yh G.T.g hmg
  exact law_call (sp := spOf K S_law) KX G.T.g G.T.b G.T.builtins G.T.nolimit hg hobj hints (Nat.le_trans hlen (by decide)) hr hF hb (fun H _ hS => sp_law hlen hS) fun H e s' h => by
    obtain ⟨_, _, _, _, _, _, _, _, _, _, _, _, _, z⟩ := h
end Y
namespace Y
open PySem L2
/-! ### a Hook with one more fact -/
def obsX (ex : PySem.W.Frag → Bool) (fa : List He.Fa) (fn : List He.DefD) (K : PySem.W.Frag) : He.AlD := (ex K && (He.obsD fa fn K).1, (He.obsD fa fn K).2)
def obsXG (n : Nat) (ex : PySem.W.Frag → Bool) (fa : List He.Fa) (fn : List He.DefD) (g : Addr → Option Obj) : He.AlD := obsX ex fa fn (He.frG g (He.asD g n))
theorem obsX_of {ex : PySem.W.Frag → Bool} {fa : List He.Fa} {fn : List He.DefD} {K : PySem.W.Frag} (e : obsX ex fa fn K = He.valD fn) : He.SaysD fa fn K ∧ ex K = true := by
  unfold obsX at e
  have e1 : (ex K && (He.obsD fa fn K).1) = true := congrArg (fun z : He.AlD => z.1) e
  have e2 := congrArg (fun z : He.AlD => z.2) e
  dsimp only at e2
  obtain ⟨h1, h2⟩ := He.ba e1
  exact ⟨Prod.ext h2 e2, h1⟩
def hookX (n : Nat) (ex : PySem.W.Frag → Bool) (fa : List He.Fa) (fn : List He.DefD) : PySem.W.Hook where
  α := He.AlD
  obs := fun s => obsXG n ex fa fn s.heap.get?
  val := fun _ => He.valD fn
  says := fun _ h => ∃ K : PySem.W.Frag, K.In h ∧ He.SaysD fa fn K ∧ ex K = true
  of := fun _ _ e => ⟨_, He.frG_in, obsX_of e⟩
  keeps := fun _ _ _ ⟨K, hK, c⟩ k => ⟨K, PySem.W.Frag.In.keeps hK k, c⟩
theorem obsXG_eq {n : Nat} {ex : PySem.W.Frag → Bool} {fa : List He.Fa} {fn : List He.DefD} {g : Addr → Option Obj} {s : Shared} (h : ∀ a, g a = s.heap.get? a) : obsXG n ex fa fn g = (hookX n ex fa fn).obs s := by
  have e : g = s.heap.get? := funext h
  rw [e] <;> rfl
/-- what isinstance asks of a class -/
def isiB (x : Str) (K : PySem.W.Frag) : Bool := decide (PySem.W.findIn K (.ref (He.ga K x)) "__class__" = some (some (.builtin "object.__class__"))) && (decide (PySem.W.specialIn K (.builtin "object.__class__") "__get__" = some (some (.builtin "getset_descriptor.__get__"))) && (decide (PySem.W.takesIn K (.builtin "object.__class__") = some true) && (decide (PySem.W.mroIn K (He.ga K x) (.type "object") = some true) && (decide (PySem.W.kitOne K (.ref (He.ga K x)) (.type "tuple") = some false) && decide (PySem.W.kitOne K (.ref (He.ga K x)) (.type "int") = some false)))))
theorem isiB_ok {x : Str} {K : PySem.W.Frag} (c : Cls K (He.ga K x)) (h : isiB x K = true) : IsiC K (He.ga K x) := by
  obtain ⟨h1, h⟩ := He.ba h
  obtain ⟨h2, h⟩ := He.ba h
  obtain ⟨h3, h⟩ := He.ba h
  obtain ⟨h4, h⟩ := He.ba h
  obtain ⟨h5, h6⟩ := He.ba h
  exact ⟨c, of_decide_eq_true h1, of_decide_eq_true h2, of_decide_eq_true h3, of_decide_eq_true h4, of_decide_eq_true h5, of_decide_eq_true h6⟩
end Y
namespace Y
open PySem L2
abbrev top (i : Nat) : Stmt := PySem.Challenge.pw_unitgrids_k76_whole_grids_all_of_whose_p.main.body.getD i (.Pass ⟨0, 0, 0, 0⟩)
abbrev st_is_integer : Stmt := top 7
abbrev N_is_integer : List Str := ["thing"]
abbrev nm_is_integer : List (Str × NameKind) := [("thing", .local), ("isinstance", .globalImplicit), ("int", .globalImplicit), ("bool", .globalImplicit)]
theorem sc_is_integer : FnScope N_is_integer ["thing"] (defScope st_is_integer) := ⟨rfl, rfl, rfl, by decide +kernel, rfl, by decide +kernel, by decide +kernel⟩
theorem nk_is_integer : nmOk (defScope st_is_integer) nm_is_integer = true := by decide +kernel
theorem fm_is_integer {g : Pg} {k : Nat} {S : Spec} (D : Dx g "is_integer" st_is_integer) (len : ∀ zs rs P P2, S zs rs P P2 → zs.length = 1) (body : ∀ zs rs P P2, S zs rs P P2 → R (g.ctx nm_is_integer k P2) N_is_integer ⟨startD N_is_integer zs, rs⟩ (defBody st_is_integer) (Pst P)) : Fn g "is_integer" (k + 1) S :=
  fn_mk D sc_is_integer nk_is_integer (fun _ _ _ _ _ _ us hl => match us, hl with | [_], _ => rfl) (by decide) len body
abbrev st_is_within : Stmt := top 8
abbrev N_is_within : List Str := ["thing", "least", "most"]
abbrev nm_is_within : List (Str × NameKind) := [("thing", .local), ("least", .local), ("most", .local), ("is_integer", .globalImplicit)]
theorem sc_is_within : FnScope N_is_within ["thing", "least", "most"] (defScope st_is_within) := ⟨rfl, rfl, rfl, by decide +kernel, rfl, by decide +kernel, by decide +kernel⟩
theorem nk_is_within : nmOk (defScope st_is_within) nm_is_within = true := by decide +kernel
theorem fm_is_within {g : Pg} {k : Nat} {S : Spec} (D : Dx g "is_within" st_is_within) (len : ∀ zs rs P P2, S zs rs P P2 → zs.length = 3) (body : ∀ zs rs P P2, S zs rs P P2 → R (g.ctx nm_is_within k P2) N_is_within ⟨startD N_is_within zs, rs⟩ (defBody st_is_within) (Pst P)) : Fn g "is_within" (k + 1) S :=
  fn_mk D sc_is_within nk_is_within (fun _ _ _ _ _ _ us hl => match us, hl with | [_, _, _], _ => rfl) (by decide) len body
abbrev st_check_number : Stmt := top 9
abbrev N_check_number : List Str := ["thing", "least", "most"]
abbrev nm_check_number : List (Str × NameKind) := [("thing", .local), ("least", .local), ("most", .local), ("is_within", .globalImplicit), ("NoNumber", .globalImplicit)]
theorem sc_check_number : FnScope N_check_number ["thing", "least", "most"] (defScope st_check_number) := ⟨rfl, rfl, rfl, by decide +kernel, rfl, by decide +kernel, by decide +kernel⟩
theorem nk_check_number : nmOk (defScope st_check_number) nm_check_number = true := by decide +kernel
theorem fm_check_number {g : Pg} {k : Nat} {S : Spec} (D : Dx g "check_number" st_check_number) (len : ∀ zs rs P P2, S zs rs P P2 → zs.length = 3) (body : ∀ zs rs P P2, S zs rs P P2 → R (g.ctx nm_check_number k P2) N_check_number ⟨startD N_check_number zs, rs⟩ (defBody st_check_number) (Pst P)) : Fn g "check_number" (k + 1) S :=
  fn_mk D sc_check_number nk_check_number (fun _ _ _ _ _ _ us hl => match us, hl with | [_, _, _], _ => rfl) (by decide) len body
abbrev st_divisor : Stmt := top 10
abbrev N_divisor : List Str := ["one", "other"]
abbrev nm_divisor : List (Str × NameKind) := [("one", .local), ("other", .local), ("abs", .globalImplicit)]
theorem sc_divisor : FnScope N_divisor ["one", "other"] (defScope st_divisor) := ⟨rfl, rfl, rfl, by decide +kernel, rfl, by decide +kernel, by decide +kernel⟩
theorem nk_divisor : nmOk (defScope st_divisor) nm_divisor = true := by decide +kernel
theorem fm_divisor {g : Pg} {k : Nat} {S : Spec} (D : Dx g "divisor" st_divisor) (len : ∀ zs rs P P2, S zs rs P P2 → zs.length = 2) (body : ∀ zs rs P P2, S zs rs P P2 → R (g.ctx nm_divisor k P2) N_divisor ⟨startD N_divisor zs, rs⟩ (defBody st_divisor) (Pst P)) : Fn g "divisor" (k + 1) S :=
  fn_mk D sc_divisor nk_divisor (fun _ _ _ _ _ _ us hl => match us, hl with | [_, _], _ => rfl) (by decide) len body
abbrev st_lowest : Stmt := top 11
abbrev N_lowest : List Str := ["top", "bottom", "common"]
abbrev nm_lowest : List (Str × NameKind) := [("top", .local), ("bottom", .local), ("common", .local), ("divisor", .globalImplicit)]
theorem sc_lowest : FnScope N_lowest ["top", "bottom"] (defScope st_lowest) := ⟨rfl, rfl, rfl, by decide +kernel, rfl, by decide +kernel, by decide +kernel⟩
theorem nk_lowest : nmOk (defScope st_lowest) nm_lowest = true := by decide +kernel
theorem fm_lowest {g : Pg} {k : Nat} {S : Spec} (D : Dx g "lowest" st_lowest) (len : ∀ zs rs P P2, S zs rs P P2 → zs.length = 2) (body : ∀ zs rs P P2, S zs rs P P2 → R (g.ctx nm_lowest k P2) N_lowest ⟨startD N_lowest zs, rs⟩ (defBody st_lowest) (Pst P)) : Fn g "lowest" (k + 1) S :=
  fn_mk D sc_lowest nk_lowest (fun _ _ _ _ _ _ us hl => match us, hl with | [_, _], _ => rfl) (by decide) len body
abbrev st_is_fraction : Stmt := top 12
abbrev N_is_fraction : List Str := ["thing"]
abbrev nm_is_fraction : List (Str × NameKind) := [("thing", .local), ("isinstance", .globalImplicit), ("tuple", .globalImplicit), ("len", .globalImplicit), ("is_integer", .globalImplicit), ("divisor", .globalImplicit)]
theorem sc_is_fraction : FnScope N_is_fraction ["thing"] (defScope st_is_fraction) := ⟨rfl, rfl, rfl, by decide +kernel, rfl, by decide +kernel, by decide +kernel⟩
theorem nk_is_fraction : nmOk (defScope st_is_fraction) nm_is_fraction = true := by decide +kernel
theorem fm_is_fraction {g : Pg} {k : Nat} {S : Spec} (D : Dx g "is_fraction" st_is_fraction) (len : ∀ zs rs P P2, S zs rs P P2 → zs.length = 1) (body : ∀ zs rs P P2, S zs rs P P2 → R (g.ctx nm_is_fraction k P2) N_is_fraction ⟨startD N_is_fraction zs, rs⟩ (defBody st_is_fraction) (Pst P)) : Fn g "is_fraction" (k + 1) S :=
  fn_mk D sc_is_fraction nk_is_fraction (fun _ _ _ _ _ _ us hl => match us, hl with | [_], _ => rfl) (by decide) len body
abbrev st_plus : Stmt := top 13
abbrev N_plus : List Str := ["one", "other"]
abbrev nm_plus : List (Str × NameKind) := [("one", .local), ("other", .local), ("lowest", .globalImplicit)]
theorem sc_plus : FnScope N_plus ["one", "other"] (defScope st_plus) := ⟨rfl, rfl, rfl, by decide +kernel, rfl, by decide +kernel, by decide +kernel⟩
theorem nk_plus : nmOk (defScope st_plus) nm_plus = true := by decide +kernel
theorem fm_plus {g : Pg} {k : Nat} {S : Spec} (D : Dx g "plus" st_plus) (len : ∀ zs rs P P2, S zs rs P P2 → zs.length = 2) (body : ∀ zs rs P P2, S zs rs P P2 → R (g.ctx nm_plus k P2) N_plus ⟨startD N_plus zs, rs⟩ (defBody st_plus) (Pst P)) : Fn g "plus" (k + 1) S :=
  fn_mk D sc_plus nk_plus (fun _ _ _ _ _ _ us hl => match us, hl with | [_, _], _ => rfl) (by decide) len body
abbrev st_minus : Stmt := top 14
abbrev N_minus : List Str := ["one", "other"]
abbrev nm_minus : List (Str × NameKind) := [("one", .local), ("other", .local), ("lowest", .globalImplicit)]
theorem sc_minus : FnScope N_minus ["one", "other"] (defScope st_minus) := ⟨rfl, rfl, rfl, by decide +kernel, rfl, by decide +kernel, by decide +kernel⟩
theorem nk_minus : nmOk (defScope st_minus) nm_minus = true := by decide +kernel
theorem fm_minus {g : Pg} {k : Nat} {S : Spec} (D : Dx g "minus" st_minus) (len : ∀ zs rs P P2, S zs rs P P2 → zs.length = 2) (body : ∀ zs rs P P2, S zs rs P P2 → R (g.ctx nm_minus k P2) N_minus ⟨startD N_minus zs, rs⟩ (defBody st_minus) (Pst P)) : Fn g "minus" (k + 1) S :=
  fn_mk D sc_minus nk_minus (fun _ _ _ _ _ _ us hl => match us, hl with | [_, _], _ => rfl) (by decide) len body
abbrev st_is_unit_of : Stmt := top 15
abbrev N_is_unit_of : List Str := ["bases", "thing", "item"]
abbrev nm_is_unit_of : List (Str × NameKind) := [("bases", .local), ("thing", .local), ("isinstance", .globalImplicit), ("tuple", .globalImplicit), ("len", .globalImplicit), ("all", .globalImplicit)]
theorem sc_is_unit_of : FnScope N_is_unit_of ["bases", "thing"] (defScope st_is_unit_of) := ⟨rfl, rfl, rfl, by decide +kernel, rfl, by decide +kernel, by decide +kernel⟩
theorem nk_is_unit_of : nmOk (defScope st_is_unit_of) nm_is_unit_of = true := by decide +kernel
theorem fm_is_unit_of {g : Pg} {k : Nat} {S : Spec} (D : Dx g "is_unit_of" st_is_unit_of) (len : ∀ zs rs P P2, S zs rs P P2 → zs.length = 2) (body : ∀ zs rs P P2, S zs rs P P2 → R (g.ctx nm_is_unit_of k P2) N_is_unit_of ⟨startD N_is_unit_of zs, rs⟩ (defBody st_is_unit_of) (Pst P)) : Fn g "is_unit_of" (k + 1) S :=
  fn_mk D sc_is_unit_of nk_is_unit_of (fun _ _ _ _ _ _ us hl => match us, hl with | [_, _], _ => rfl) (by decide) len body
abbrev st_unitless : Stmt := top 16
abbrev N_unitless : List Str := ["bases"]
abbrev nm_unitless : List (Str × NameKind) := [("bases", .local)]
theorem sc_unitless : FnScope N_unitless ["bases"] (defScope st_unitless) := ⟨rfl, rfl, rfl, by decide +kernel, rfl, by decide +kernel, by decide +kernel⟩
theorem nk_unitless : nmOk (defScope st_unitless) nm_unitless = true := by decide +kernel
theorem fm_unitless {g : Pg} {k : Nat} {S : Spec} (D : Dx g "unitless" st_unitless) (len : ∀ zs rs P P2, S zs rs P P2 → zs.length = 1) (body : ∀ zs rs P P2, S zs rs P P2 → R (g.ctx nm_unitless k P2) N_unitless ⟨startD N_unitless zs, rs⟩ (defBody st_unitless) (Pst P)) : Fn g "unitless" (k + 1) S :=
  fn_mk D sc_unitless nk_unitless (fun _ _ _ _ _ _ us hl => match us, hl with | [_], _ => rfl) (by decide) len body
abbrev st_unit_plus : Stmt := top 17
abbrev N_unit_plus : List Str := ["one", "other", "first", "second"]
abbrev nm_unit_plus : List (Str × NameKind) := [("one", .local), ("other", .local), ("tuple", .globalImplicit), ("zip", .globalImplicit)]
theorem sc_unit_plus : FnScope N_unit_plus ["one", "other"] (defScope st_unit_plus) := ⟨rfl, rfl, rfl, by decide +kernel, rfl, by decide +kernel, by decide +kernel⟩
theorem nk_unit_plus : nmOk (defScope st_unit_plus) nm_unit_plus = true := by decide +kernel
theorem fm_unit_plus {g : Pg} {k : Nat} {S : Spec} (D : Dx g "unit_plus" st_unit_plus) (len : ∀ zs rs P P2, S zs rs P P2 → zs.length = 2) (body : ∀ zs rs P P2, S zs rs P P2 → R (g.ctx nm_unit_plus k P2) N_unit_plus ⟨startD N_unit_plus zs, rs⟩ (defBody st_unit_plus) (Pst P)) : Fn g "unit_plus" (k + 1) S :=
  fn_mk D sc_unit_plus nk_unit_plus (fun _ _ _ _ _ _ us hl => match us, hl with | [_, _], _ => rfl) (by decide) len body
abbrev st_unit_minus : Stmt := top 18
abbrev N_unit_minus : List Str := ["one", "other", "first", "second"]
abbrev nm_unit_minus : List (Str × NameKind) := [("one", .local), ("other", .local), ("tuple", .globalImplicit), ("zip", .globalImplicit)]
theorem sc_unit_minus : FnScope N_unit_minus ["one", "other"] (defScope st_unit_minus) := ⟨rfl, rfl, rfl, by decide +kernel, rfl, by decide +kernel, by decide +kernel⟩
theorem nk_unit_minus : nmOk (defScope st_unit_minus) nm_unit_minus = true := by decide +kernel
theorem fm_unit_minus {g : Pg} {k : Nat} {S : Spec} (D : Dx g "unit_minus" st_unit_minus) (len : ∀ zs rs P P2, S zs rs P P2 → zs.length = 2) (body : ∀ zs rs P P2, S zs rs P P2 → R (g.ctx nm_unit_minus k P2) N_unit_minus ⟨startD N_unit_minus zs, rs⟩ (defBody st_unit_minus) (Pst P)) : Fn g "unit_minus" (k + 1) S :=
  fn_mk D sc_unit_minus nk_unit_minus (fun _ _ _ _ _ _ us hl => match us, hl with | [_, _], _ => rfl) (by decide) len body
abbrev st_is_part : Stmt := top 24
abbrev N_is_part : List Str := ["thing"]
abbrev nm_is_part : List (Str × NameKind) := [("thing", .local), ("isinstance", .globalImplicit), ("tuple", .globalImplicit), ("len", .globalImplicit), ("MOST_ROWS", .globalImplicit)]
theorem sc_is_part : FnScope N_is_part ["thing"] (defScope st_is_part) := ⟨rfl, rfl, rfl, by decide +kernel, rfl, by decide +kernel, by decide +kernel⟩
theorem nk_is_part : nmOk (defScope st_is_part) nm_is_part = true := by decide +kernel
theorem fm_is_part {g : Pg} {k : Nat} {S : Spec} (D : Dx g "is_part" st_is_part) (len : ∀ zs rs P P2, S zs rs P P2 → zs.length = 1) (body : ∀ zs rs P P2, S zs rs P P2 → R (g.ctx nm_is_part k P2) N_is_part ⟨startD N_is_part zs, rs⟩ (defBody st_is_part) (Pst P)) : Fn g "is_part" (k + 1) S :=
  fn_mk D sc_is_part nk_is_part (fun _ _ _ _ _ _ us hl => match us, hl with | [_], _ => rfl) (by decide) len body
abbrev st_is_cell : Stmt := top 25
abbrev N_is_cell : List Str := ["bases", "thing", "top", "bottom"]
abbrev nm_is_cell : List (Str × NameKind) := [("bases", .local), ("thing", .local), ("is_unit_of", .globalImplicit), ("all", .globalImplicit)]
theorem sc_is_cell : FnScope N_is_cell ["bases", "thing"] (defScope st_is_cell) := ⟨rfl, rfl, rfl, by decide +kernel, rfl, by decide +kernel, by decide +kernel⟩
theorem nk_is_cell : nmOk (defScope st_is_cell) nm_is_cell = true := by decide +kernel
theorem fm_is_cell {g : Pg} {k : Nat} {S : Spec} (D : Dx g "is_cell" st_is_cell) (len : ∀ zs rs P P2, S zs rs P P2 → zs.length = 2) (body : ∀ zs rs P P2, S zs rs P P2 → R (g.ctx nm_is_cell k P2) N_is_cell ⟨startD N_is_cell zs, rs⟩ (defBody st_is_cell) (Pst P)) : Fn g "is_cell" (k + 1) S :=
  fn_mk D sc_is_cell nk_is_cell (fun _ _ _ _ _ _ us hl => match us, hl with | [_, _], _ => rfl) (by decide) len body
abbrev st_check_rows : Stmt := top 26
abbrev N_check_rows : List Str := ["bases", "rows", "i", "row", "j", "item"]
abbrev nm_check_rows : List (Str × NameKind) := [("bases", .local), ("rows", .local), ("i", .local), ("row", .local), ("j", .local), ("item", .local), ("enumerate", .globalImplicit), ("is_part", .globalImplicit), ("len", .globalImplicit), ("BadGrid", .globalImplicit), ("is_cell", .globalImplicit)]
theorem sc_check_rows : FnScope N_check_rows ["bases", "rows"] (defScope st_check_rows) := ⟨rfl, rfl, rfl, by decide +kernel, rfl, by decide +kernel, by decide +kernel⟩
theorem nk_check_rows : nmOk (defScope st_check_rows) nm_check_rows = true := by decide +kernel
theorem fm_check_rows {g : Pg} {k : Nat} {S : Spec} (D : Dx g "check_rows" st_check_rows) (len : ∀ zs rs P P2, S zs rs P P2 → zs.length = 2) (body : ∀ zs rs P P2, S zs rs P P2 → R (g.ctx nm_check_rows k P2) N_check_rows ⟨startD N_check_rows zs, rs⟩ (defBody st_check_rows) (Pst P)) : Fn g "check_rows" (k + 1) S :=
  fn_mk D sc_check_rows nk_check_rows (fun _ _ _ _ _ _ us hl => match us, hl with | [_, _], _ => rfl) (by decide) len body
abbrev st_Grid_init : Stmt := inClass (top 27) 0
abbrev N_Grid_init : List Str := ["self", "bases", "rows"]
abbrev nm_Grid_init : List (Str × NameKind) := [("self", .local), ("bases", .local), ("rows", .local), ("is_within", .globalImplicit), ("MOST_BASES", .globalImplicit), ("BadGrid", .globalImplicit), ("is_part", .globalImplicit), ("check_rows", .globalImplicit)]
theorem sc_Grid_init : FnScope N_Grid_init ["self", "bases", "rows"] (defScope st_Grid_init) := ⟨rfl, rfl, rfl, by decide +kernel, rfl, by decide +kernel, by decide +kernel⟩
theorem nk_Grid_init : nmOk (defScope st_Grid_init) nm_Grid_init = true := by decide +kernel
abbrev st_Grid_eq : Stmt := inClass (top 27) 1
abbrev N_Grid_eq : List Str := ["self", "other"]
abbrev nm_Grid_eq : List (Str × NameKind) := [("self", .local), ("other", .local), ("isinstance", .globalImplicit), ("Grid", .globalImplicit)]
theorem sc_Grid_eq : FnScope N_Grid_eq ["self", "other"] (defScope st_Grid_eq) := ⟨rfl, rfl, rfl, by decide +kernel, rfl, by decide +kernel, by decide +kernel⟩
theorem nk_Grid_eq : nmOk (defScope st_Grid_eq) nm_Grid_eq = true := by decide +kernel
abbrev st_check_cell : Stmt := top 28
abbrev N_check_cell : List Str := ["sizes", "i", "j"]
abbrev nm_check_cell : List (Str × NameKind) := [("sizes", .local), ("i", .local), ("j", .local), ("is_within", .globalImplicit), ("NoCell", .globalImplicit)]
theorem sc_check_cell : FnScope N_check_cell ["sizes", "i", "j"] (defScope st_check_cell) := ⟨rfl, rfl, rfl, by decide +kernel, rfl, by decide +kernel, by decide +kernel⟩
theorem nk_check_cell : nmOk (defScope st_check_cell) nm_check_cell = true := by decide +kernel
theorem fm_check_cell {g : Pg} {k : Nat} {S : Spec} (D : Dx g "check_cell" st_check_cell) (len : ∀ zs rs P P2, S zs rs P P2 → zs.length = 3) (body : ∀ zs rs P P2, S zs rs P P2 → R (g.ctx nm_check_cell k P2) N_check_cell ⟨startD N_check_cell zs, rs⟩ (defBody st_check_cell) (Pst P)) : Fn g "check_cell" (k + 1) S :=
  fn_mk D sc_check_cell nk_check_cell (fun _ _ _ _ _ _ us hl => match us, hl with | [_, _, _], _ => rfl) (by decide) len body
abbrev st_turned_rows : Stmt := top 30
abbrev N_turned_rows : List Str := ["rows", "place", "row"]
abbrev nm_turned_rows : List (Str × NameKind) := [("rows", .cell), ("range", .globalImplicit), ("len", .globalImplicit)]
theorem sc_turned_rows : FnScope N_turned_rows ["rows"] (defScope st_turned_rows) := ⟨rfl, rfl, rfl, by decide +kernel, rfl, by decide +kernel, by decide +kernel⟩
theorem nk_turned_rows : nmOk (defScope st_turned_rows) nm_turned_rows = true := by decide +kernel
theorem fm_turned_rows {g : Pg} {k : Nat} {S : Spec} (D : Dx g "turned_rows" st_turned_rows) (len : ∀ zs rs P P2, S zs rs P P2 → zs.length = 1) (body : ∀ zs rs P P2, S zs rs P P2 → R (g.ctx nm_turned_rows k P2) N_turned_rows ⟨startD N_turned_rows zs, rs⟩ (defBody st_turned_rows) (Pst P)) : Fn g "turned_rows" (k + 1) S :=
  fn_mk D sc_turned_rows nk_turned_rows (fun _ _ _ _ _ _ us hl => match us, hl with | [_], _ => rfl) (by decide) len body
abbrev st_check_square_grid : Stmt := top 32
abbrev N_check_square_grid : List Str := ["grid"]
abbrev nm_check_square_grid : List (Str × NameKind) := [("grid", .local), ("len", .globalImplicit), ("NotSquare", .globalImplicit)]
theorem sc_check_square_grid : FnScope N_check_square_grid ["grid"] (defScope st_check_square_grid) := ⟨rfl, rfl, rfl, by decide +kernel, rfl, by decide +kernel, by decide +kernel⟩
theorem nk_check_square_grid : nmOk (defScope st_check_square_grid) nm_check_square_grid = true := by decide +kernel
theorem fm_check_square_grid {g : Pg} {k : Nat} {S : Spec} (D : Dx g "check_square_grid" st_check_square_grid) (len : ∀ zs rs P P2, S zs rs P P2 → zs.length = 1) (body : ∀ zs rs P P2, S zs rs P P2 → R (g.ctx nm_check_square_grid k P2) N_check_square_grid ⟨startD N_check_square_grid zs, rs⟩ (defBody st_check_square_grid) (Pst P)) : Fn g "check_square_grid" (k + 1) S :=
  fn_mk D sc_check_square_grid nk_check_square_grid (fun _ _ _ _ _ _ us hl => match us, hl with | [_], _ => rfl) (by decide) len body
abbrev st_put_unlike : Stmt := top 35
abbrev N_put_unlike : List Str := ["marks", "mark"]
abbrev nm_put_unlike : List (Str × NameKind) := [("marks", .local), ("mark", .local), ("len", .globalImplicit)]
theorem sc_put_unlike : FnScope N_put_unlike ["marks", "mark"] (defScope st_put_unlike) := ⟨rfl, rfl, rfl, by decide +kernel, rfl, by decide +kernel, by decide +kernel⟩
theorem nk_put_unlike : nmOk (defScope st_put_unlike) nm_put_unlike = true := by decide +kernel
theorem fm_put_unlike {g : Pg} {k : Nat} {S : Spec} (D : Dx g "put_unlike" st_put_unlike) (len : ∀ zs rs P P2, S zs rs P P2 → zs.length = 2) (body : ∀ zs rs P P2, S zs rs P P2 → R (g.ctx nm_put_unlike k P2) N_put_unlike ⟨startD N_put_unlike zs, rs⟩ (defBody st_put_unlike) (Pst P)) : Fn g "put_unlike" (k + 1) S :=
  fn_mk D sc_put_unlike nk_put_unlike (fun _ _ _ _ _ _ us hl => match us, hl with | [_, _], _ => rfl) (by decide) len body
abbrev st_power_marks : Stmt := top 36
abbrev N_power_marks : List Str := ["rows", "many", "start", "bases", "place", "found", "_", "later", "marks", "goal", "tie", "mark"]
abbrev nm_power_marks : List (Str × NameKind) := [("rows", .local), ("many", .local), ("start", .local), ("bases", .local), ("place", .local), ("found", .local), ("_", .local), ("later", .local), ("marks", .local), ("goal", .local), ("tie", .local), ("mark", .local), ("unitless", .globalImplicit), ("range", .globalImplicit), ("enumerate", .globalImplicit), ("put_unlike", .globalImplicit), ("unit_plus", .globalImplicit)]
theorem sc_power_marks : FnScope N_power_marks ["rows", "many", "start", "bases"] (defScope st_power_marks) := ⟨rfl, rfl, rfl, by decide +kernel, rfl, by decide +kernel, by decide +kernel⟩
theorem nk_power_marks : nmOk (defScope st_power_marks) nm_power_marks = true := by decide +kernel
theorem fm_power_marks {g : Pg} {k : Nat} {S : Spec} (D : Dx g "power_marks" st_power_marks) (len : ∀ zs rs P P2, S zs rs P P2 → zs.length = 4) (body : ∀ zs rs P P2, S zs rs P P2 → R (g.ctx nm_power_marks k P2) N_power_marks ⟨startD N_power_marks zs, rs⟩ (defBody st_power_marks) (Pst P)) : Fn g "power_marks" (k + 1) S :=
  fn_mk D sc_power_marks nk_power_marks (fun _ _ _ _ _ _ us hl => match us, hl with | [_, _, _, _], _ => rfl) (by decide) len body
abbrev st_power_verdict : Stmt := top 37
abbrev N_power_verdict : List Str := ["grid", "many", "i", "j", "marks"]
abbrev nm_power_verdict : List (Str × NameKind) := [("grid", .local), ("many", .local), ("i", .local), ("j", .local), ("marks", .local), ("check_square_grid", .globalImplicit), ("check_number", .globalImplicit), ("MOST_VERDICT", .globalImplicit), ("check_cell", .globalImplicit), ("len", .globalImplicit), ("power_marks", .globalImplicit)]
theorem sc_power_verdict : FnScope N_power_verdict ["grid", "many", "i", "j"] (defScope st_power_verdict) := ⟨rfl, rfl, rfl, by decide +kernel, rfl, by decide +kernel, by decide +kernel⟩
theorem nk_power_verdict : nmOk (defScope st_power_verdict) nm_power_verdict = true := by decide +kernel
theorem fm_power_verdict {g : Pg} {k : Nat} {S : Spec} (D : Dx g "power_verdict" st_power_verdict) (len : ∀ zs rs P P2, S zs rs P P2 → zs.length = 4) (body : ∀ zs rs P P2, S zs rs P P2 → R (g.ctx nm_power_verdict k P2) N_power_verdict ⟨startD N_power_verdict zs, rs⟩ (defBody st_power_verdict) (Pst P)) : Fn g "power_verdict" (k + 1) S :=
  fn_mk D sc_power_verdict nk_power_verdict (fun _ _ _ _ _ _ us hl => match us, hl with | [_, _, _, _], _ => rfl) (by decide) len body
abbrev st_led_pairs : Stmt := top 38
abbrev N_led_pairs : List Str := ["rows", "pair", "found", "one", "first", "other", "second"]
abbrev nm_led_pairs : List (Str × NameKind) := [("rows", .local), ("pair", .local), ("found", .local), ("one", .local), ("first", .local), ("other", .local), ("second", .local), ("enumerate", .globalImplicit), ("unit_minus", .globalImplicit)]
theorem sc_led_pairs : FnScope N_led_pairs ["rows", "pair"] (defScope st_led_pairs) := ⟨rfl, rfl, rfl, by decide +kernel, rfl, by decide +kernel, by decide +kernel⟩
theorem nk_led_pairs : nmOk (defScope st_led_pairs) nm_led_pairs = true := by decide +kernel
theorem fm_led_pairs {g : Pg} {k : Nat} {S : Spec} (D : Dx g "led_pairs" st_led_pairs) (len : ∀ zs rs P P2, S zs rs P P2 → zs.length = 2) (body : ∀ zs rs P P2, S zs rs P P2 → R (g.ctx nm_led_pairs k P2) N_led_pairs ⟨startD N_led_pairs zs, rs⟩ (defBody st_led_pairs) (Pst P)) : Fn g "led_pairs" (k + 1) S :=
  fn_mk D sc_led_pairs nk_led_pairs (fun _ _ _ _ _ _ us hl => match us, hl with | [_, _], _ => rfl) (by decide) len body
abbrev st_differences_ahead : Stmt := top 39
abbrev N_differences_ahead : List Str := ["rows", "bases", "found", "waiting", "pair", "later", "tie", "place"]
abbrev nm_differences_ahead : List (Str × NameKind) := [("rows", .local), ("bases", .cell), ("found", .local), ("waiting", .local), ("pair", .local), ("later", .local), ("tie", .local), ("range", .globalImplicit), ("len", .globalImplicit), ("list", .globalImplicit), ("led_pairs", .globalImplicit), ("unit_plus", .globalImplicit)]
theorem sc_differences_ahead : FnScope N_differences_ahead ["rows", "bases"] (defScope st_differences_ahead) := ⟨rfl, rfl, rfl, by decide +kernel, rfl, by decide +kernel, by decide +kernel⟩
theorem nk_differences_ahead : nmOk (defScope st_differences_ahead) nm_differences_ahead = true := by decide +kernel
theorem fm_differences_ahead {g : Pg} {k : Nat} {S : Spec} (D : Dx g "differences_ahead" st_differences_ahead) (len : ∀ zs rs P P2, S zs rs P P2 → zs.length = 2) (body : ∀ zs rs P P2, S zs rs P P2 → R (g.ctx nm_differences_ahead k P2) N_differences_ahead ⟨startD N_differences_ahead zs, rs⟩ (defBody st_differences_ahead) (Pst P)) : Fn g "differences_ahead" (k + 1) S :=
  fn_mk D sc_differences_ahead nk_differences_ahead (fun _ _ _ _ _ _ us hl => match us, hl with | [_, _], _ => rfl) (by decide) len body
abbrev st_raw_differences : Stmt := top 40
abbrev N_raw_differences : List Str := ["rows", "bases", "ahead", "behind", "pair", "later", "tie"]
abbrev nm_raw_differences : List (Str × NameKind) := [("rows", .local), ("bases", .local), ("ahead", .cell), ("behind", .cell), ("pair", .local), ("later", .local), ("tie", .local), ("differences_ahead", .globalImplicit), ("turned_rows", .globalImplicit), ("led_pairs", .globalImplicit), ("unit_plus", .globalImplicit)]
theorem sc_raw_differences : FnScope N_raw_differences ["rows", "bases"] (defScope st_raw_differences) := ⟨rfl, rfl, rfl, by decide +kernel, rfl, by decide +kernel, by decide +kernel⟩
theorem nk_raw_differences : nmOk (defScope st_raw_differences) nm_raw_differences = true := by decide +kernel
theorem fm_raw_differences {g : Pg} {k : Nat} {S : Spec} (D : Dx g "raw_differences" st_raw_differences) (len : ∀ zs rs P P2, S zs rs P P2 → zs.length = 2) (body : ∀ zs rs P P2, S zs rs P P2 → R (g.ctx nm_raw_differences k P2) N_raw_differences ⟨startD N_raw_differences zs, rs⟩ (defBody st_raw_differences) (Pst P)) : Fn g "raw_differences" (k + 1) S :=
  fn_mk D sc_raw_differences nk_raw_differences (fun _ _ _ _ _ _ us hl => match us, hl with | [_, _], _ => rfl) (by decide) len body
abbrev st_keeps : Stmt := top 41
abbrev N_keeps : List Str := ["grid"]
abbrev nm_keeps : List (Str × NameKind) := [("grid", .local), ("check_square_grid", .globalImplicit), ("raw_differences", .globalImplicit)]
theorem sc_keeps : FnScope N_keeps ["grid"] (defScope st_keeps) := ⟨rfl, rfl, rfl, by decide +kernel, rfl, by decide +kernel, by decide +kernel⟩
theorem nk_keeps : nmOk (defScope st_keeps) nm_keeps = true := by decide +kernel
theorem fm_keeps {g : Pg} {k : Nat} {S : Spec} (D : Dx g "keeps" st_keeps) (len : ∀ zs rs P P2, S zs rs P P2 → zs.length = 1) (body : ∀ zs rs P P2, S zs rs P P2 → R (g.ctx nm_keeps k P2) N_keeps ⟨startD N_keeps zs, rs⟩ (defBody st_keeps) (Pst P)) : Fn g "keeps" (k + 1) S :=
  fn_mk D sc_keeps nk_keeps (fun _ _ _ _ _ _ us hl => match us, hl with | [_], _ => rfl) (by decide) len body
abbrev st_longer_by_one : Stmt := top 42
abbrev N_longer_by_one : List Str := ["rows", "layer", "found", "pair", "later", "tie", "marks", "difference", "firsts", "seconds"]
abbrev nm_longer_by_one : List (Str × NameKind) := [("rows", .local), ("layer", .local), ("found", .local), ("pair", .local), ("later", .local), ("tie", .local), ("marks", .local), ("difference", .local), ("firsts", .local), ("seconds", .local), ("led_pairs", .globalImplicit), ("put_unlike", .globalImplicit), ("unit_plus", .globalImplicit)]
theorem sc_longer_by_one : FnScope N_longer_by_one ["rows", "layer"] (defScope st_longer_by_one) := ⟨rfl, rfl, rfl, by decide +kernel, rfl, by decide +kernel, by decide +kernel⟩
theorem nk_longer_by_one : nmOk (defScope st_longer_by_one) nm_longer_by_one = true := by decide +kernel
theorem fm_longer_by_one {g : Pg} {k : Nat} {S : Spec} (D : Dx g "longer_by_one" st_longer_by_one) (len : ∀ zs rs P P2, S zs rs P P2 → zs.length = 2) (body : ∀ zs rs P P2, S zs rs P P2 → R (g.ctx nm_longer_by_one k P2) N_longer_by_one ⟨startD N_longer_by_one zs, rs⟩ (defBody st_longer_by_one) (Pst P)) : Fn g "longer_by_one" (k + 1) S :=
  fn_mk D sc_longer_by_one nk_longer_by_one (fun _ _ _ _ _ _ us hl => match us, hl with | [_, _], _ => rfl) (by decide) len body
abbrev st_unlike_in : Stmt := top 43
abbrev N_unlike_in : List Str := ["layer", "bases", "pair", "difference", "firsts", "seconds"]
abbrev nm_unlike_in : List (Str × NameKind) := [("layer", .local), ("bases", .local), ("pair", .local), ("difference", .local), ("firsts", .local), ("seconds", .local), ("unitless", .globalImplicit)]
theorem sc_unlike_in : FnScope N_unlike_in ["layer", "bases"] (defScope st_unlike_in) := ⟨rfl, rfl, rfl, by decide +kernel, rfl, by decide +kernel, by decide +kernel⟩
theorem nk_unlike_in : nmOk (defScope st_unlike_in) nm_unlike_in = true := by decide +kernel
theorem fm_unlike_in {g : Pg} {k : Nat} {S : Spec} (D : Dx g "unlike_in" st_unlike_in) (len : ∀ zs rs P P2, S zs rs P P2 → zs.length = 2) (body : ∀ zs rs P P2, S zs rs P P2 → R (g.ctx nm_unlike_in k P2) N_unlike_in ⟨startD N_unlike_in zs, rs⟩ (defBody st_unlike_in) (Pst P)) : Fn g "unlike_in" (k + 1) S :=
  fn_mk D sc_unlike_in nk_unlike_in (fun _ _ _ _ _ _ us hl => match us, hl with | [_, _], _ => rfl) (by decide) len body
abbrev st_unlike_rows : Stmt := top 44
abbrev N_unlike_rows : List Str := ["grid", "layer", "found", "place"]
abbrev nm_unlike_rows : List (Str × NameKind) := [("grid", .cell), ("layer", .local), ("found", .local), ("check_square_grid", .globalImplicit), ("raw_differences", .globalImplicit), ("range", .globalImplicit), ("len", .globalImplicit), ("longer_by_one", .globalImplicit), ("unlike_in", .globalImplicit)]
theorem sc_unlike_rows : FnScope N_unlike_rows ["grid"] (defScope st_unlike_rows) := ⟨rfl, rfl, rfl, by decide +kernel, rfl, by decide +kernel, by decide +kernel⟩
theorem nk_unlike_rows : nmOk (defScope st_unlike_rows) nm_unlike_rows = true := by decide +kernel
theorem fm_unlike_rows {g : Pg} {k : Nat} {S : Spec} (D : Dx g "unlike_rows" st_unlike_rows) (len : ∀ zs rs P P2, S zs rs P P2 → zs.length = 1) (body : ∀ zs rs P P2, S zs rs P P2 → R (g.ctx nm_unlike_rows k P2) N_unlike_rows ⟨startD N_unlike_rows zs, rs⟩ (defBody st_unlike_rows) (Pst P)) : Fn g "unlike_rows" (k + 1) S :=
  fn_mk D sc_unlike_rows nk_unlike_rows (fun _ _ _ _ _ _ us hl => match us, hl with | [_], _ => rfl) (by decide) len body
abbrev st__law_hand : Stmt := top 46
abbrev N__law_hand : List Str := ["_law_script", "_law_cells", "_law_cell"]
abbrev nm__law_hand : List (Str × NameKind) := [("_law_script", .local), ("_law_cells", .local), ("len", .globalImplicit)]
theorem sc__law_hand : FnScope N__law_hand ["_law_script"] (defScope st__law_hand) := ⟨rfl, rfl, rfl, by decide +kernel, rfl, by decide +kernel, by decide +kernel⟩
theorem nk__law_hand : nmOk (defScope st__law_hand) nm__law_hand = true := by decide +kernel
theorem fm__law_hand {g : Pg} {k : Nat} {S : Spec} (D : Dx g "_law_hand" st__law_hand) (len : ∀ zs rs P P2, S zs rs P P2 → zs.length = 1) (body : ∀ zs rs P P2, S zs rs P P2 → R (g.ctx nm__law_hand k P2) N__law_hand ⟨startD N__law_hand zs, rs⟩ (defBody st__law_hand) (Pst P)) : Fn g "_law_hand" (k + 1) S :=
  fn_mk D sc__law_hand nk__law_hand (fun _ _ _ _ _ _ us hl => match us, hl with | [_], _ => rfl) (by decide) len body
abbrev st__law_draw : Stmt := top 47
abbrev N__law_draw : List Str := ["_law_hand_here", "_law_many", "_law_cell", "_law_digit", "_law_number"]
abbrev nm__law_draw : List (Str × NameKind) := [("_law_hand_here", .local), ("_law_many", .local), ("_law_cell", .local), ("_law_digit", .local), ("_law_number", .local), ("len", .globalImplicit), ("int", .globalImplicit)]
theorem sc__law_draw : FnScope N__law_draw ["_law_hand_here", "_law_many"] (defScope st__law_draw) := ⟨rfl, rfl, rfl, by decide +kernel, rfl, by decide +kernel, by decide +kernel⟩
theorem nk__law_draw : nmOk (defScope st__law_draw) nm__law_draw = true := by decide +kernel
theorem fm__law_draw {g : Pg} {k : Nat} {S : Spec} (D : Dx g "_law_draw" st__law_draw) (len : ∀ zs rs P P2, S zs rs P P2 → zs.length = 2) (body : ∀ zs rs P P2, S zs rs P P2 → R (g.ctx nm__law_draw k P2) N__law_draw ⟨startD N__law_draw zs, rs⟩ (defBody st__law_draw) (Pst P)) : Fn g "_law_draw" (k + 1) S :=
  fn_mk D sc__law_draw nk__law_draw (fun _ _ _ _ _ _ us hl => match us, hl with | [_, _], _ => rfl) (by decide) len body
abbrev st__law_lowest : Stmt := top 48
abbrev N__law_lowest : List Str := ["_law_top", "_law_below", "_law_one", "_law_other"]
abbrev nm__law_lowest : List (Str × NameKind) := [("_law_top", .local), ("_law_below", .local), ("_law_one", .local), ("_law_other", .local), ("abs", .globalImplicit), ("int", .globalImplicit)]
theorem sc__law_lowest : FnScope N__law_lowest ["_law_top", "_law_below"] (defScope st__law_lowest) := ⟨rfl, rfl, rfl, by decide +kernel, rfl, by decide +kernel, by decide +kernel⟩
theorem nk__law_lowest : nmOk (defScope st__law_lowest) nm__law_lowest = true := by decide +kernel
theorem fm__law_lowest {g : Pg} {k : Nat} {S : Spec} (D : Dx g "_law_lowest" st__law_lowest) (len : ∀ zs rs P P2, S zs rs P P2 → zs.length = 2) (body : ∀ zs rs P P2, S zs rs P P2 → R (g.ctx nm__law_lowest k P2) N__law_lowest ⟨startD N__law_lowest zs, rs⟩ (defBody st__law_lowest) (Pst P)) : Fn g "_law_lowest" (k + 1) S :=
  fn_mk D sc__law_lowest nk__law_lowest (fun _ _ _ _ _ _ us hl => match us, hl with | [_, _], _ => rfl) (by decide) len body
abbrev st__law_plus : Stmt := top 49
abbrev N__law_plus : List Str := ["_law_one", "_law_other"]
abbrev nm__law_plus : List (Str × NameKind) := [("_law_one", .local), ("_law_other", .local), ("_law_lowest", .globalImplicit)]
theorem sc__law_plus : FnScope N__law_plus ["_law_one", "_law_other"] (defScope st__law_plus) := ⟨rfl, rfl, rfl, by decide +kernel, rfl, by decide +kernel, by decide +kernel⟩
theorem nk__law_plus : nmOk (defScope st__law_plus) nm__law_plus = true := by decide +kernel
theorem fm__law_plus {g : Pg} {k : Nat} {S : Spec} (D : Dx g "_law_plus" st__law_plus) (len : ∀ zs rs P P2, S zs rs P P2 → zs.length = 2) (body : ∀ zs rs P P2, S zs rs P P2 → R (g.ctx nm__law_plus k P2) N__law_plus ⟨startD N__law_plus zs, rs⟩ (defBody st__law_plus) (Pst P)) : Fn g "_law_plus" (k + 1) S :=
  fn_mk D sc__law_plus nk__law_plus (fun _ _ _ _ _ _ us hl => match us, hl with | [_, _], _ => rfl) (by decide) len body
abbrev st__law_times : Stmt := top 50
abbrev N__law_times : List Str := ["_law_one", "_law_other"]
abbrev nm__law_times : List (Str × NameKind) := [("_law_one", .local), ("_law_other", .local), ("_law_lowest", .globalImplicit)]
theorem sc__law_times : FnScope N__law_times ["_law_one", "_law_other"] (defScope st__law_times) := ⟨rfl, rfl, rfl, by decide +kernel, rfl, by decide +kernel, by decide +kernel⟩
theorem nk__law_times : nmOk (defScope st__law_times) nm__law_times = true := by decide +kernel
theorem fm__law_times {g : Pg} {k : Nat} {S : Spec} (D : Dx g "_law_times" st__law_times) (len : ∀ zs rs P P2, S zs rs P P2 → zs.length = 2) (body : ∀ zs rs P P2, S zs rs P P2 → R (g.ctx nm__law_times k P2) N__law_times ⟨startD N__law_times zs, rs⟩ (defBody st__law_times) (Pst P)) : Fn g "_law_times" (k + 1) S :=
  fn_mk D sc__law_times nk__law_times (fun _ _ _ _ _ _ us hl => match us, hl with | [_, _], _ => rfl) (by decide) len body
abbrev st__law_unit_sum : Stmt := top 51
abbrev N__law_unit_sum : List Str := ["_law_one", "_law_other", "_law_sign", "_law_first", "_law_second"]
abbrev nm__law_unit_sum : List (Str × NameKind) := [("_law_one", .local), ("_law_other", .local), ("_law_sign", .cell), ("tuple", .globalImplicit), ("zip", .globalImplicit)]
theorem sc__law_unit_sum : FnScope N__law_unit_sum ["_law_one", "_law_other", "_law_sign"] (defScope st__law_unit_sum) := ⟨rfl, rfl, rfl, by decide +kernel, rfl, by decide +kernel, by decide +kernel⟩
theorem nk__law_unit_sum : nmOk (defScope st__law_unit_sum) nm__law_unit_sum = true := by decide +kernel
theorem fm__law_unit_sum {g : Pg} {k : Nat} {S : Spec} (D : Dx g "_law_unit_sum" st__law_unit_sum) (len : ∀ zs rs P P2, S zs rs P P2 → zs.length = 3) (body : ∀ zs rs P P2, S zs rs P P2 → R (g.ctx nm__law_unit_sum k P2) N__law_unit_sum ⟨startD N__law_unit_sum zs, rs⟩ (defBody st__law_unit_sum) (Pst P)) : Fn g "_law_unit_sum" (k + 1) S :=
  fn_mk D sc__law_unit_sum nk__law_unit_sum (fun _ _ _ _ _ _ us hl => match us, hl with | [_, _, _], _ => rfl) (by decide) len body
abbrev st__law_unitless : Stmt := top 52
abbrev N__law_unitless : List Str := ["_law_bases"]
abbrev nm__law_unitless : List (Str × NameKind) := [("_law_bases", .local)]
theorem sc__law_unitless : FnScope N__law_unitless ["_law_bases"] (defScope st__law_unitless) := ⟨rfl, rfl, rfl, by decide +kernel, rfl, by decide +kernel, by decide +kernel⟩
theorem nk__law_unitless : nmOk (defScope st__law_unitless) nm__law_unitless = true := by decide +kernel
theorem fm__law_unitless {g : Pg} {k : Nat} {S : Spec} (D : Dx g "_law_unitless" st__law_unitless) (len : ∀ zs rs P P2, S zs rs P P2 → zs.length = 1) (body : ∀ zs rs P P2, S zs rs P P2 → R (g.ctx nm__law_unitless k P2) N__law_unitless ⟨startD N__law_unitless zs, rs⟩ (defBody st__law_unitless) (Pst P)) : Fn g "_law_unitless" (k + 1) S :=
  fn_mk D sc__law_unitless nk__law_unitless (fun _ _ _ _ _ _ us hl => match us, hl with | [_], _ => rfl) (by decide) len body
abbrev st__law_total : Stmt := top 53
abbrev N__law_total : List Str := ["_law_bases", "_law_units", "_law_found", "_law_unit_here"]
abbrev nm__law_total : List (Str × NameKind) := [("_law_bases", .local), ("_law_units", .local), ("_law_found", .local), ("_law_unit_here", .local), ("_law_unitless", .globalImplicit), ("_law_unit_sum", .globalImplicit)]
theorem sc__law_total : FnScope N__law_total ["_law_bases", "_law_units"] (defScope st__law_total) := ⟨rfl, rfl, rfl, by decide +kernel, rfl, by decide +kernel, by decide +kernel⟩
theorem nk__law_total : nmOk (defScope st__law_total) nm__law_total = true := by decide +kernel
theorem fm__law_total {g : Pg} {k : Nat} {S : Spec} (D : Dx g "_law_total" st__law_total) (len : ∀ zs rs P P2, S zs rs P P2 → zs.length = 2) (body : ∀ zs rs P P2, S zs rs P P2 → R (g.ctx nm__law_total k P2) N__law_total ⟨startD N__law_total zs, rs⟩ (defBody st__law_total) (Pst P)) : Fn g "_law_total" (k + 1) S :=
  fn_mk D sc__law_total nk__law_total (fun _ _ _ _ _ _ us hl => match us, hl with | [_, _], _ => rfl) (by decide) len body
abbrev st__law_unit : Stmt := top 54
abbrev N__law_unit : List Str := ["_law_hand_here", "_law_bases", "_law_most", "_law_found", "_law_k", "_law_below"]
abbrev nm__law_unit : List (Str × NameKind) := [("_law_hand_here", .local), ("_law_bases", .local), ("_law_most", .local), ("_law_found", .local), ("_law_k", .local), ("_law_below", .local), ("range", .globalImplicit), ("_law_draw", .globalImplicit), ("_law_lowest", .globalImplicit), ("tuple", .globalImplicit)]
theorem sc__law_unit : FnScope N__law_unit ["_law_hand_here", "_law_bases", "_law_most"] (defScope st__law_unit) := ⟨rfl, rfl, rfl, by decide +kernel, rfl, by decide +kernel, by decide +kernel⟩
theorem nk__law_unit : nmOk (defScope st__law_unit) nm__law_unit = true := by decide +kernel
theorem fm__law_unit {g : Pg} {k : Nat} {S : Spec} (D : Dx g "_law_unit" st__law_unit) (len : ∀ zs rs P P2, S zs rs P P2 → zs.length = 3) (body : ∀ zs rs P P2, S zs rs P P2 → R (g.ctx nm__law_unit k P2) N__law_unit ⟨startD N__law_unit zs, rs⟩ (defBody st__law_unit) (Pst P)) : Fn g "_law_unit" (k + 1) S :=
  fn_mk D sc__law_unit nk__law_unit (fun _ _ _ _ _ _ us hl => match us, hl with | [_, _, _], _ => rfl) (by decide) len body
abbrev st__law_rows : Stmt := top 55
abbrev N__law_rows : List Str := ["_law_hand_here", "_law_many", "_law_bases", "_law_full", "_law_kind", "_law_i", "_law_firsts", "_law_j", "_law_seconds", "_law_rows_here", "_law_row", "_law_unit_here", "_law_turn"]
abbrev nm__law_rows : List (Str × NameKind) := [("_law_hand_here", .cell), ("_law_many", .local), ("_law_bases", .cell), ("_law_full", .local), ("_law_kind", .local), ("_law_i", .local), ("_law_firsts", .local), ("_law_j", .local), ("_law_seconds", .local), ("_law_rows_here", .local), ("_law_row", .local), ("_law_unit_here", .local), ("_law_turn", .local), ("_law_draw", .globalImplicit), ("range", .globalImplicit), ("_law_unit_sum", .globalImplicit), ("_law_unit", .globalImplicit), ("tuple", .globalImplicit)]
theorem sc__law_rows : FnScope N__law_rows ["_law_hand_here", "_law_many", "_law_bases"] (defScope st__law_rows) := ⟨rfl, rfl, rfl, by decide +kernel, rfl, by decide +kernel, by decide +kernel⟩
theorem nk__law_rows : nmOk (defScope st__law_rows) nm__law_rows = true := by decide +kernel
theorem fm__law_rows {g : Pg} {k : Nat} {S : Spec} (D : Dx g "_law_rows" st__law_rows) (len : ∀ zs rs P P2, S zs rs P P2 → zs.length = 3) (body : ∀ zs rs P P2, S zs rs P P2 → R (g.ctx nm__law_rows k P2) N__law_rows ⟨startD N__law_rows zs, rs⟩ (defBody st__law_rows) (Pst P)) : Fn g "_law_rows" (k + 1) S :=
  fn_mk D sc__law_rows nk__law_rows (fun _ _ _ _ _ _ us hl => match us, hl with | [_, _, _], _ => rfl) (by decide) len body
abbrev st__law_drawn : Stmt := top 56
abbrev N__law_drawn : List Str := ["_law_hand_here", "_law_most", "_law_bases"]
abbrev nm__law_drawn : List (Str × NameKind) := [("_law_hand_here", .local), ("_law_most", .local), ("_law_bases", .local), ("_law_draw", .globalImplicit), ("_law_rows", .globalImplicit)]
theorem sc__law_drawn : FnScope N__law_drawn ["_law_hand_here", "_law_most"] (defScope st__law_drawn) := ⟨rfl, rfl, rfl, by decide +kernel, rfl, by decide +kernel, by decide +kernel⟩
theorem nk__law_drawn : nmOk (defScope st__law_drawn) nm__law_drawn = true := by decide +kernel
theorem fm__law_drawn {g : Pg} {k : Nat} {S : Spec} (D : Dx g "_law_drawn" st__law_drawn) (len : ∀ zs rs P P2, S zs rs P P2 → zs.length = 2) (body : ∀ zs rs P P2, S zs rs P P2 → R (g.ctx nm__law_drawn k P2) N__law_drawn ⟨startD N__law_drawn zs, rs⟩ (defBody st__law_drawn) (Pst P)) : Fn g "_law_drawn" (k + 1) S :=
  fn_mk D sc__law_drawn nk__law_drawn (fun _ _ _ _ _ _ us hl => match us, hl with | [_, _], _ => rfl) (by decide) len body
abbrev st__law_made : Stmt := top 57
abbrev N__law_made : List Str := ["_law_parts"]
abbrev nm__law_made : List (Str × NameKind) := [("_law_parts", .local), ("Grid", .globalImplicit)]
theorem sc__law_made : FnScope N__law_made ["_law_parts"] (defScope st__law_made) := ⟨rfl, rfl, rfl, by decide +kernel, rfl, by decide +kernel, by decide +kernel⟩
theorem nk__law_made : nmOk (defScope st__law_made) nm__law_made = true := by decide +kernel
theorem fm__law_made {g : Pg} {k : Nat} {S : Spec} (D : Dx g "_law_made" st__law_made) (len : ∀ zs rs P P2, S zs rs P P2 → zs.length = 1) (body : ∀ zs rs P P2, S zs rs P P2 → R (g.ctx nm__law_made k P2) N__law_made ⟨startD N__law_made zs, rs⟩ (defBody st__law_made) (Pst P)) : Fn g "_law_made" (k + 1) S :=
  fn_mk D sc__law_made nk__law_made (fun _ _ _ _ _ _ us hl => match us, hl with | [_], _ => rfl) (by decide) len body
abbrev st__law_evened : Stmt := top 58
abbrev N__law_evened : List Str := ["_law_hand_here", "_law_most", "_law_bases", "_law_many", "_law_full", "_law_p", "_law_heights", "_law_rate", "_law_rows_here", "_law_row", "_law_q", "_law_unit_here"]
abbrev nm__law_evened : List (Str × NameKind) := [("_law_hand_here", .cell), ("_law_most", .local), ("_law_bases", .cell), ("_law_many", .local), ("_law_full", .local), ("_law_p", .local), ("_law_heights", .local), ("_law_rate", .local), ("_law_rows_here", .local), ("_law_row", .local), ("_law_q", .local), ("_law_unit_here", .local), ("_law_draw", .globalImplicit), ("_law_rows", .globalImplicit), ("range", .globalImplicit), ("_law_unit", .globalImplicit), ("_law_unit_sum", .globalImplicit), ("tuple", .globalImplicit)]
theorem sc__law_evened : FnScope N__law_evened ["_law_hand_here", "_law_most"] (defScope st__law_evened) := ⟨rfl, rfl, rfl, by decide +kernel, rfl, by decide +kernel, by decide +kernel⟩
theorem nk__law_evened : nmOk (defScope st__law_evened) nm__law_evened = true := by decide +kernel
theorem fm__law_evened {g : Pg} {k : Nat} {S : Spec} (D : Dx g "_law_evened" st__law_evened) (len : ∀ zs rs P P2, S zs rs P P2 → zs.length = 2) (body : ∀ zs rs P P2, S zs rs P P2 → R (g.ctx nm__law_evened k P2) N__law_evened ⟨startD N__law_evened zs, rs⟩ (defBody st__law_evened) (Pst P)) : Fn g "_law_evened" (k + 1) S :=
  fn_mk D sc__law_evened nk__law_evened (fun _ _ _ _ _ _ us hl => match us, hl with | [_, _], _ => rfl) (by decide) len body
abbrev st__law_steps_on : Stmt := top 59
abbrev N__law_steps_on : List Str := ["_law_parts", "_law_start", "_law_found", "_law_row"]
abbrev nm__law_steps_on : List (Str × NameKind) := [("_law_parts", .local), ("_law_start", .local), ("_law_found", .local), ("_law_unitless", .globalImplicit)]
theorem sc__law_steps_on : FnScope N__law_steps_on ["_law_parts", "_law_start"] (defScope st__law_steps_on) := ⟨rfl, rfl, rfl, by decide +kernel, rfl, by decide +kernel, by decide +kernel⟩
theorem nk__law_steps_on : nmOk (defScope st__law_steps_on) nm__law_steps_on = true := by decide +kernel
theorem fm__law_steps_on {g : Pg} {k : Nat} {S : Spec} (D : Dx g "_law_steps_on" st__law_steps_on) (len : ∀ zs rs P P2, S zs rs P P2 → zs.length = 2) (body : ∀ zs rs P P2, S zs rs P P2 → R (g.ctx nm__law_steps_on k P2) N__law_steps_on ⟨startD N__law_steps_on zs, rs⟩ (defBody st__law_steps_on) (Pst P)) : Fn g "_law_steps_on" (k + 1) S :=
  fn_mk D sc__law_steps_on nk__law_steps_on (fun _ _ _ _ _ _ us hl => match us, hl with | [_, _], _ => rfl) (by decide) len body
abbrev st__law_next : Stmt := top 60
abbrev N__law_next : List Str := ["_law_parts", "_law_found", "_law_later", "_law_p", "_law_weights", "_law_q", "_law_unit_here", "_law_weight", "_law_more", "_law_row"]
abbrev nm__law_next : List (Str × NameKind) := [("_law_parts", .local), ("_law_found", .local), ("_law_later", .local), ("_law_p", .local), ("_law_weights", .local), ("_law_q", .local), ("_law_unit_here", .local), ("_law_weight", .local), ("_law_more", .local), ("enumerate", .globalImplicit), ("_law_unit_sum", .globalImplicit), ("len", .globalImplicit)]
theorem sc__law_next : FnScope N__law_next ["_law_parts", "_law_found"] (defScope st__law_next) := ⟨rfl, rfl, rfl, by decide +kernel, rfl, by decide +kernel, by decide +kernel⟩
theorem nk__law_next : nmOk (defScope st__law_next) nm__law_next = true := by decide +kernel
theorem fm__law_next {g : Pg} {k : Nat} {S : Spec} (D : Dx g "_law_next" st__law_next) (len : ∀ zs rs P P2, S zs rs P P2 → zs.length = 2) (body : ∀ zs rs P P2, S zs rs P P2 → R (g.ctx nm__law_next k P2) N__law_next ⟨startD N__law_next zs, rs⟩ (defBody st__law_next) (Pst P)) : Fn g "_law_next" (k + 1) S :=
  fn_mk D sc__law_next nk__law_next (fun _ _ _ _ _ _ us hl => match us, hl with | [_, _], _ => rfl) (by decide) len body
abbrev st__law_whole_unit : Stmt := top 61
abbrev N__law_whole_unit : List Str := ["_law_hand_here", "_law_bases", "_law_k"]
abbrev nm__law_whole_unit : List (Str × NameKind) := [("_law_hand_here", .cell), ("_law_bases", .local), ("tuple", .globalImplicit), ("range", .globalImplicit)]
theorem sc__law_whole_unit : FnScope N__law_whole_unit ["_law_hand_here", "_law_bases"] (defScope st__law_whole_unit) := ⟨rfl, rfl, rfl, by decide +kernel, rfl, by decide +kernel, by decide +kernel⟩
theorem nk__law_whole_unit : nmOk (defScope st__law_whole_unit) nm__law_whole_unit = true := by decide +kernel
theorem fm__law_whole_unit {g : Pg} {k : Nat} {S : Spec} (D : Dx g "_law_whole_unit" st__law_whole_unit) (len : ∀ zs rs P P2, S zs rs P P2 → zs.length = 2) (body : ∀ zs rs P P2, S zs rs P P2 → R (g.ctx nm__law_whole_unit k P2) N__law_whole_unit ⟨startD N__law_whole_unit zs, rs⟩ (defBody st__law_whole_unit) (Pst P)) : Fn g "_law_whole_unit" (k + 1) S :=
  fn_mk D sc__law_whole_unit nk__law_whole_unit (fun _ _ _ _ _ _ us hl => match us, hl with | [_, _], _ => rfl) (by decide) len body
abbrev st__law_great : Stmt := top 62
abbrev N__law_great : List Str := ["_law_hand_here", "_law_firsts", "_law_seconds", "_law_many", "_law_bases", "_law_rows_here", "_law_i", "_law_row", "_law_j", "_law_is_there", "_law_bent"]
abbrev nm__law_great : List (Str × NameKind) := [("_law_hand_here", .local), ("_law_firsts", .local), ("_law_seconds", .local), ("_law_many", .local), ("_law_bases", .local), ("_law_rows_here", .local), ("_law_i", .local), ("_law_row", .local), ("_law_j", .local), ("_law_is_there", .local), ("_law_bent", .local), ("len", .globalImplicit), ("range", .globalImplicit), ("int", .globalImplicit), ("_law_draw", .globalImplicit), ("_law_unit_sum", .globalImplicit), ("tuple", .globalImplicit)]
theorem sc__law_great : FnScope N__law_great ["_law_hand_here", "_law_firsts", "_law_seconds"] (defScope st__law_great) := ⟨rfl, rfl, rfl, by decide +kernel, rfl, by decide +kernel, by decide +kernel⟩
theorem nk__law_great : nmOk (defScope st__law_great) nm__law_great = true := by decide +kernel
theorem fm__law_great {g : Pg} {k : Nat} {S : Spec} (D : Dx g "_law_great" st__law_great) (len : ∀ zs rs P P2, S zs rs P P2 → zs.length = 3) (body : ∀ zs rs P P2, S zs rs P P2 → R (g.ctx nm__law_great k P2) N__law_great ⟨startD N__law_great zs, rs⟩ (defBody st__law_great) (Pst P)) : Fn g "_law_great" (k + 1) S :=
  fn_mk D sc__law_great nk__law_great (fun _ _ _ _ _ _ us hl => match us, hl with | [_, _, _], _ => rfl) (by decide) len body
abbrev st__law_sided : Stmt := top 63
abbrev N__law_sided : List Str := ["_law_hand_here", "_law_bases", "_law_many", "_law_firsts", "_law_i", "_law_j"]
abbrev nm__law_sided : List (Str × NameKind) := [("_law_hand_here", .cell), ("_law_bases", .cell), ("_law_many", .local), ("_law_firsts", .local), ("_law_draw", .globalImplicit), ("range", .globalImplicit)]
theorem sc__law_sided : FnScope N__law_sided ["_law_hand_here"] (defScope st__law_sided) := ⟨rfl, rfl, rfl, by decide +kernel, rfl, by decide +kernel, by decide +kernel⟩
theorem nk__law_sided : nmOk (defScope st__law_sided) nm__law_sided = true := by decide +kernel
theorem fm__law_sided {g : Pg} {k : Nat} {S : Spec} (D : Dx g "_law_sided" st__law_sided) (len : ∀ zs rs P P2, S zs rs P P2 → zs.length = 1) (body : ∀ zs rs P P2, S zs rs P P2 → R (g.ctx nm__law_sided k P2) N__law_sided ⟨startD N__law_sided zs, rs⟩ (defBody st__law_sided) (Pst P)) : Fn g "_law_sided" (k + 1) S :=
  fn_mk D sc__law_sided nk__law_sided (fun _ _ _ _ _ _ us hl => match us, hl with | [_], _ => rfl) (by decide) len body
abbrev st__law_raised : Stmt := top 64
abbrev N__law_raised : List Str := ["_law_hand_here", "_law_bases", "_law_many", "_law_heights", "_law_rate", "_law_p", "_law_height"]
abbrev nm__law_raised : List (Str × NameKind) := [("_law_hand_here", .cell), ("_law_bases", .cell), ("_law_many", .local), ("_law_heights", .local), ("_law_rate", .cell), ("_law_draw", .globalImplicit), ("range", .globalImplicit), ("_law_whole_unit", .globalImplicit)]
theorem sc__law_raised : FnScope N__law_raised ["_law_hand_here"] (defScope st__law_raised) := ⟨rfl, rfl, rfl, by decide +kernel, rfl, by decide +kernel, by decide +kernel⟩
theorem nk__law_raised : nmOk (defScope st__law_raised) nm__law_raised = true := by decide +kernel
theorem fm__law_raised {g : Pg} {k : Nat} {S : Spec} (D : Dx g "_law_raised" st__law_raised) (len : ∀ zs rs P P2, S zs rs P P2 → zs.length = 1) (body : ∀ zs rs P P2, S zs rs P P2 → R (g.ctx nm__law_raised k P2) N__law_raised ⟨startD N__law_raised zs, rs⟩ (defBody st__law_raised) (Pst P)) : Fn g "_law_raised" (k + 1) S :=
  fn_mk D sc__law_raised nk__law_raised (fun _ _ _ _ _ _ us hl => match us, hl with | [_], _ => rfl) (by decide) len body
abbrev st__law_great_right : Stmt := top 65
abbrev N__law_great_right : List Str := ["_law_hand_here", "_law_heights", "_law_rate", "_law_firsts", "_law_seconds", "_law_rows_here", "_law_bent", "_law_grid", "_law_i", "_law_j", "_law_size", "_law_due", "_law_turn"]
abbrev nm__law_great_right : List (Str × NameKind) := [("_law_hand_here", .local), ("_law_heights", .local), ("_law_rate", .local), ("_law_firsts", .local), ("_law_seconds", .local), ("_law_rows_here", .local), ("_law_bent", .local), ("_law_grid", .local), ("_law_i", .local), ("_law_j", .local), ("_law_size", .local), ("_law_due", .local), ("_law_turn", .local), ("_law_raised", .globalImplicit), ("_law_great", .globalImplicit), ("Grid", .globalImplicit), ("len", .globalImplicit), ("keeps", .globalImplicit), ("power_verdict", .globalImplicit), ("_law_draw", .globalImplicit), ("_law_unit_sum", .globalImplicit), ("range", .globalImplicit)]
theorem sc__law_great_right : FnScope N__law_great_right ["_law_hand_here"] (defScope st__law_great_right) := ⟨rfl, rfl, rfl, by decide +kernel, rfl, by decide +kernel, by decide +kernel⟩
theorem nk__law_great_right : nmOk (defScope st__law_great_right) nm__law_great_right = true := by decide +kernel
theorem fm__law_great_right {g : Pg} {k : Nat} {S : Spec} (D : Dx g "_law_great_right" st__law_great_right) (len : ∀ zs rs P P2, S zs rs P P2 → zs.length = 1) (body : ∀ zs rs P P2, S zs rs P P2 → R (g.ctx nm__law_great_right k P2) N__law_great_right ⟨startD N__law_great_right zs, rs⟩ (defBody st__law_great_right) (Pst P)) : Fn g "_law_great_right" (k + 1) S :=
  fn_mk D sc__law_great_right nk__law_great_right (fun _ _ _ _ _ _ us hl => match us, hl with | [_], _ => rfl) (by decide) len body
abbrev st__law_shortest : Stmt := top 66
abbrev N__law_shortest : List Str := ["_law_parts", "_law_many", "_law_layers", "_law_size", "_law_start", "_law_found", "_law_weights"]
abbrev nm__law_shortest : List (Str × NameKind) := [("_law_parts", .cell), ("_law_many", .local), ("_law_layers", .local), ("_law_size", .local), ("len", .globalImplicit), ("range", .globalImplicit), ("any", .globalImplicit)]
theorem sc__law_shortest : FnScope N__law_shortest ["_law_parts"] (defScope st__law_shortest) := ⟨rfl, rfl, rfl, by decide +kernel, rfl, by decide +kernel, by decide +kernel⟩
theorem nk__law_shortest : nmOk (defScope st__law_shortest) nm__law_shortest = true := by decide +kernel
theorem fm__law_shortest {g : Pg} {k : Nat} {S : Spec} (D : Dx g "_law_shortest" st__law_shortest) (len : ∀ zs rs P P2, S zs rs P P2 → zs.length = 1) (body : ∀ zs rs P P2, S zs rs P P2 → R (g.ctx nm__law_shortest k P2) N__law_shortest ⟨startD N__law_shortest zs, rs⟩ (defBody st__law_shortest) (Pst P)) : Fn g "_law_shortest" (k + 1) S :=
  fn_mk D sc__law_shortest nk__law_shortest (fun _ _ _ _ _ _ us hl => match us, hl with | [_], _ => rfl) (by decide) len body
abbrev st_law : Stmt := top 67
abbrev N_law : List Str := ["_law_script", "_law_hand_here", "_law_turn", "_law_parts", "_law_rows_here", "_law_grid", "_law_many", "_law_due", "_law_told", "_law_pair", "_law_size", "_law_cells", "_law_i", "_law_row", "_law_j"]
abbrev nm_law : List (Str × NameKind) := [("_law_script", .local), ("_law_hand_here", .local), ("_law_turn", .local), ("_law_parts", .local), ("_law_rows_here", .local), ("_law_grid", .cell), ("_law_many", .cell), ("_law_due", .local), ("_law_told", .local), ("_law_pair", .local), ("_law_size", .cell), ("_law_cells", .local), ("_law_hand", .globalImplicit), ("_law_draw", .globalImplicit), ("_law_great_right", .globalImplicit), ("range", .globalImplicit), ("_law_evened", .globalImplicit), ("tuple", .globalImplicit), ("enumerate", .globalImplicit), ("Grid", .globalImplicit), ("len", .globalImplicit), ("_law_shortest", .globalImplicit), ("keeps", .globalImplicit), ("isinstance", .globalImplicit), ("bool", .globalImplicit), ("unlike_rows", .globalImplicit), ("any", .globalImplicit), ("power_verdict", .globalImplicit)]
theorem sc_law : FnScope N_law ["_law_script"] (defScope st_law) := ⟨rfl, rfl, rfl, by decide +kernel, rfl, by decide +kernel, by decide +kernel⟩
theorem nk_law : nmOk (defScope st_law) nm_law = true := by decide +kernel
theorem fm_law {g : Pg} {k : Nat} {S : Spec} (D : Dx g "law" st_law) (len : ∀ zs rs P P2, S zs rs P P2 → zs.length = 1) (body : ∀ zs rs P P2, S zs rs P P2 → R (g.ctx nm_law k P2) N_law ⟨startD N_law zs, rs⟩ (defBody st_law) (Pst P)) : Fn g "law" (k + 1) S :=
  fn_mk D sc_law nk_law (fun _ _ _ _ _ _ us hl => match us, hl with | [_], _ => rfl) (by decide) len body

/-! ### tactics -/
local macro_rules | `(tactic| walk_at "yk") => `(tactic| with_reducible (first | exact Kn.hd | (apply Kn.tl; walk_at "yk")))
local macro_rules | `(tactic| walk_at "yl") => `(tactic| with_reducible (first | exact Look.hd | (apply Look.tl; walk_at "yl")))
local macro_rules | `(tactic| walk_at "yp") => `(tactic| with_reducible (first | exact Put.hd | (apply Put.tl; walk_at "yp")))
local macro_rules | `(tactic| walk_at "yi") => `(tactic| with_reducible (first | exact Ix.hd | (apply Ix.tl; walk_at "yi")))
local macro_rules | `(tactic| walk_at "yr") => `(tactic| with_reducible (first | exact Res.hd | (apply Res.tl; walk_at "yr")))
local macro_rules | `(tactic| walk_at "yrd") => `(tactic| first | exact ResD.d (by walk_at "yr") | exact ResD.kd (by walk_at "yr"))
local macro_rules | `(tactic| walk_at "yt") => `(tactic| with_reducible (first | exact Tak.hd | (apply Tak.tl; walk_at "yt")))
local macro_rules | `(tactic| walk_at "ybf") => `(tactic| with_reducible first
  | exact bf_len | exact bf_abs | exact bf_isinstance | exact bf_all | exact bf_any | exact bf_tuple | exact bf_int | exact bf_list | exact bf_dict | exact bf_sum | exact bf_sorted | exact bf_max | exact bf_min)
local macro_rules | `(tactic| walk_at "yb") => `(tactic| refine e_cb (by with_reducible assumption) (by walk_at "ybf") (by walk_at "yk") ?_ ⟨by decide, by decide, by intro _; rfl, by intro _; rfl⟩)
local macro_rules | `(tactic| walk_at "ybF") => `(tactic| refine e_cbF (by with_reducible assumption) (by walk_at "ybf") (by walk_at "yk") ?_ ⟨by decide, by decide, by intro _; rfl, by intro _; rfl⟩)
local macro_rules | `(tactic| walk_at "ybO") => `(tactic| refine eo_cbO (by with_reducible assumption) (by walk_at "ybf") (by walk_at "yk") ?_ ⟨by decide, by decide, by intro _; rfl, by intro _; rfl⟩)
local macro_rules | `(tactic| walk_at "ybS") => `(tactic| refine eo_cbS (by with_reducible assumption) (by walk_at "ybf") (by walk_at "yk") ?_ ⟨by decide, by decide, by intro _; rfl, by intro _; rfl⟩)
local macro_rules | `(tactic| walk_at "yc") => `(tactic| refine e_call (by with_reducible assumption) (by walk_at "yk") (Nat.le_of_ble_eq_true (by rfl)) ?_ (by intro _; rfl) (by intro _; rfl))
local macro_rules | `(tactic| walk_at "yco") => `(tactic| refine eo_call (by with_reducible assumption) (by walk_at "yk") (Nat.le_of_ble_eq_true (by rfl)) ?_ (by intro _; rfl) (by intro _; rfl))
local macro_rules | `(tactic| walk_at "ye") => `(tactic| first
  | ((with_reducible show E _ _ _ (Expr.Name _ _) _); first | refine e_var (by walk_at "yl") (by walk_at "yk") (by rfl) ?_ | refine e_glob (by with_reducible assumption) (by walk_at "yk") ?_ | refine e_ty (by with_reducible assumption) (by with_reducible first | exact bt_int | exact bt_bool | exact bt_str | exact bt_tuple | exact bt_list | exact bt_dict) (by walk_at "yk") (by decide) ?_)
  | ((with_reducible show E _ _ _ (Expr.Constant (Const.int _) _ _) _); refine e_int ?_)
  | ((with_reducible show E _ _ _ (Expr.Subscript _ (Expr.Slice _ _ none _) _) _); refine e_slT ?_)
  | ((with_reducible show E _ _ _ (Expr.Subscript (Expr.Name _ _) _ _) _); first | (refine e_rawN (by walk_at "yl") ?_; walk_at "yix") | ((fail_if_success refine e_rawN (by walk_at "yl") ?_); refine e_ix ?_ (by intro _ _; rfl)))
  | ((with_reducible show E _ _ _ (Expr.Subscript (Expr.List _ _) _ _) _); refine e_ix (EO.toE (eo_lst ?_)) (by intro _ _; rfl))
  | ((with_reducible show E _ _ _ (Expr.Call (Expr.Attribute _ "append" _) [_] [] _) _); refine e_append ?_ ⟨by intro _; rfl, by intro _; rfl, by rfl, by intro _; rfl, by intro _; rfl⟩)
  | ((with_reducible show E _ _ _ (Expr.Call (Expr.Attribute _ "pop" _) [] [] _) _); refine e_pop ?_ ⟨by intro _; rfl, by rfl⟩)
  | ((with_reducible show E _ _ _ (Expr.Subscript (Expr.Subscript (Expr.Name _ _) _ _) _ _) _); first | (refine e_rawNL (by walk_at "yl") (by walk_at "yr") ?_; refine e_ix ?_ (by intro _ _; rfl)) | ((fail_if_success refine e_rawNN (by walk_at "yl") ?_); refine e_ix ?_ (by intro _ _; rfl)))
  | ((with_reducible show E _ _ _ (Expr.Subscript (Expr.Subscript (Expr.Subscript _ _ _) _ _) _ _) _); refine e_ix ?_ (by intro _ _; rfl))
  | ((with_reducible show E _ _ _ (Expr.Subscript (Expr.Subscript (Expr.Attribute _ _ _) _ _) _ _) _); refine e_ix ?_ (by intro _ _; rfl))
  | ((with_reducible show E _ _ _ (Expr.Subscript (Expr.Attribute _ _ _) _ _) _); refine e_ix ?_ (by intro _ _; rfl))
  | ((with_reducible show E _ _ _ (Expr.BinOp _ _ _ _) _); refine e_bin ?_)
  | ((with_reducible show E _ _ _ (Expr.Tuple _ _ _) _); refine e_tup ?_)
  | ((with_reducible show E _ _ _ (Expr.Call (Expr.Name "abs" _) [_] [] _) _); walk_at "yb")
  | ((with_reducible show E _ _ _ (Expr.Call (Expr.Name "int" _) [_] [] _) _); walk_at "yb")
  | ((with_reducible show E _ _ _ (Expr.Call (Expr.Name "len" _) [_] [] _) _); walk_at "yb")
  | ((with_reducible show E _ _ _ (Expr.Call (Expr.Name "all" _) [_] [] _) _); walk_at "yb")
  | ((with_reducible show E _ _ _ (Expr.Call (Expr.Name "any" _) [_] [] _) _); walk_at "yb")
  | ((with_reducible show E _ _ _ (Expr.Call (Expr.Name "isinstance" _) [Expr.Name _ _, Expr.Name "dict" _] [] _) _); refine t_isiD (by with_reducible assumption) bf_isinstance (by walk_at "yk") ?_ ⟨by decide, by decide, by intro _; rfl, by intro _; rfl⟩)
  | ((with_reducible show E _ _ _ (Expr.Call (Expr.Name "isinstance" _) [_, _] [] _) _); walk_at "yb")
  | ((with_reducible show E _ _ _ (Expr.Call (Expr.Name "tuple" _) [_] [] _) _); walk_at "ybF")
  | ((with_reducible show E _ _ _ (Expr.Call (Expr.Name _ _) (_ :: _) [] _) _); walk_at "yc")
  | ((with_reducible show E _ _ _ (Expr.Constant Const.none _ _) _); refine e_non ?_)
  | ((with_reducible show E _ _ _ (Expr.Constant (Const.bool _) _ _) _); refine e_bl ?_)
  | ((with_reducible show E _ _ _ (Expr.Constant (Const.str _) _ _) _); refine e_str ?_)
  | ((with_reducible show E _ _ _ (Expr.UnaryOp UnaryOp.Not _ _) _); refine e_not ?_)
  | ((with_reducible show E _ _ _ (Expr.UnaryOp _ _ _) _); refine e_un ?_)
  | ((with_reducible show E _ _ _ (Expr.Compare _ [_, _] _ _) _); refine e_chain ?_ (by rfl))
  | ((with_reducible show E _ _ _ (Expr.Compare _ [CmpOp.Is] [Expr.Constant Const.none _ _] _) _); refine e_isN ?_)
  | ((with_reducible show E _ _ _ (Expr.Compare _ [CmpOp.IsNot] [Expr.Constant Const.none _ _] _) _); refine e_notN ?_)
  | ((with_reducible show E _ _ _ (Expr.Compare _ [CmpOp.In] _ _) _); refine e_in ?_ (by rfl))
  | ((with_reducible show E _ _ _ (Expr.Compare _ [_] _ _) _); refine e_cmp ?_ (by rfl))
  | ((with_reducible show E _ _ _ (Expr.BoolOp BoolOp.And (_ :: _ :: _) _) _); refine e_and ?_)
  | ((with_reducible show E _ _ _ (Expr.BoolOp BoolOp.Or (_ :: _ :: _) _) _); refine e_or ?_)
  | ((with_reducible show E _ _ _ (Expr.BoolOp _ [_] _) _); refine e_one ?_)
  | ((with_reducible show E _ _ _ (Expr.IfExp _ _ _ _) _); refine e_if ?_)
  | ((with_reducible show E _ _ _ (Expr.Attribute _ _ _) _); refine e_fld ?_ (by intro _; rfl)))
local macro_rules | `(tactic| walk_at "yarg") => `(tactic| first
  | ((with_reducible show EA _ _ _ [] _); refine ea_nil ?_)
  | ((with_reducible show EA _ _ _ (Expr.Constant _ _ _ :: _) _); refine ea_const ?_)
  | ((with_reducible show EA _ _ _ (Expr.Name _ _ :: _) _); refine ea_name ?_)
  | ((with_reducible show EA _ _ _ (Expr.Tuple _ _ _ :: _) _); refine ea_tuple ?_)
  | ((with_reducible show EA _ _ _ (Expr.List _ _ :: _) _); refine ea_list ?_)
  | ((with_reducible show EA _ _ _ (Expr.BinOp _ _ _ _ :: _) _); refine ea_bin ?_)
  | ((with_reducible show EA _ _ _ (Expr.UnaryOp _ _ _ :: _) _); refine ea_un ?_)
  | ((with_reducible show EA _ _ _ (Expr.Call _ _ _ _ :: _) _); refine ea_call ?_)
  | ((with_reducible show EA _ _ _ (Expr.Subscript _ _ _ :: _) _); refine ea_sub ?_)
  | ((with_reducible show EA _ _ _ (Expr.Dict _ _ _ :: _) _); refine ea_dict ?_)
  | ((with_reducible show EA _ _ _ (_ :: _) _); refine ea_cons ?_ (by intro _; rfl)))
local macro_rules | `(tactic| walk_at "ytest") => `(tactic| first
  | ((with_reducible show T _ _ _ (Expr.Compare _ [CmpOp.Is] [Expr.Constant Const.none _ _] _) _); refine t_isN ?_)
  | ((with_reducible show T _ _ _ (Expr.Compare _ [CmpOp.IsNot] [Expr.Constant Const.none _ _] _) _); refine t_notN ?_)
  | ((with_reducible show T _ _ _ (Expr.Compare _ [_, _] _ _) _); refine t_chain ?_ (by rfl))
  | ((with_reducible show T _ _ _ (Expr.Compare _ [CmpOp.In] _ _) _); first | (refine t_rawL (by walk_at "yl") (by walk_at "yr") ?_; refine t_inL ?_ (by rfl)) | (refine t_lstN (by walk_at "yl") ?_; refine t_inL ?_ (by rfl)) | refine t_in ?_ (by rfl))
  | ((with_reducible show T _ _ _ (Expr.Compare _ [CmpOp.NotIn] _ _) _); first | (refine t_rawL (by walk_at "yl") (by walk_at "yr") ?_; refine t_notinL ?_ (by rfl)) | (refine t_lstN (by walk_at "yl") ?_; refine t_notinL ?_ (by rfl)) | refine t_notin ?_ (by rfl))
  | ((with_reducible show T _ _ _ (Expr.Compare _ [_] _ _) _); refine t_cmp ?_ (by rfl))
  | ((with_reducible show T _ _ _ (Expr.UnaryOp UnaryOp.Not _ _) _); refine t_not ?_)
  | ((with_reducible show T _ _ _ (Expr.BoolOp BoolOp.And (_ :: _ :: _) _) _); refine TW.t (tw_and ?_))
  | ((with_reducible show T _ _ _ (Expr.BoolOp BoolOp.Or (_ :: _ :: _) _) _); refine TW.t (tw_or ?_))
  | ((with_reducible show TW _ _ _ (Expr.BoolOp BoolOp.And (_ :: _ :: _) _) _); refine tw_and ?_)
  | ((with_reducible show TW _ _ _ (Expr.BoolOp BoolOp.Or (_ :: _ :: _) _) _); refine tw_or ?_)
  | ((with_reducible show TW _ _ _ (Expr.BoolOp BoolOp.And [_] _) _); refine tw_and1 ?_)
  | ((with_reducible show TW _ _ _ (Expr.BoolOp BoolOp.Or [_] _) _); refine tw_or1 ?_)
  | ((with_reducible show T _ _ _ (Expr.Call _ _ _ _) _); refine t_val ?_ (by intro _ _; rfl))
  | ((with_reducible show T _ _ _ (Expr.Name _ _) _); refine t_val ?_ (by intro _ _; rfl)))
local macro_rules | `(tactic| walk_at "yop") => `(tactic| first
  | ((with_reducible show Op2 _ (binaryOp Operator.Add) (D.int _) (D.int _) _); refine op_addI ?_)
  | ((with_reducible show Op2 _ (binaryOp Operator.Pow) (D.int _) (D.int _) _); refine op_powI (by decide) (by decide) (by decide) ?_)
  | ((with_reducible show Op2 _ (binaryOp Operator.Mult) (D.int _) (D.int _) _); first | refine op_mulI (.inr ⟨by decide, by decide⟩) ?_ | refine op_mulI (.inl ⟨by decide, by decide⟩) ?_)
  | ((with_reducible show Op2 _ (binaryOp Operator.Mod) (D.int _) (D.int _) _); refine op_modI (by first | decide | omega) ?_)
  | ((with_reducible show Op2 _ (binaryOp Operator.FloorDiv) (D.int _) (D.int _) _); refine op_divS (by first | decide | omega) (by first | decide | omega) ?_)
  | ((with_reducible show Op2 _ (binaryOp Operator.Sub) (D.int _) (D.int _) _); refine op_subI ?_)
  | ((with_reducible show Op2 _ (compareOp CmpOp.Lt) (D.int _) (D.int _) _); refine op_ltI ?_)
  | ((with_reducible show Op2 _ (compareOp CmpOp.LtE) (D.int _) (D.int _) _); refine op_leI ?_)
  | ((with_reducible show Op2 _ (compareOp CmpOp.Gt) (D.int _) (D.int _) _); refine op_gtI ?_)
  | ((with_reducible show Op2 _ (compareOp CmpOp.GtE) (D.int _) (D.int _) _); refine op_geI ?_)
  | ((with_reducible show Op2 _ (compareOp CmpOp.Eq) (D.int _) (D.int _) _); refine op_eqI ?_)
  | ((with_reducible show Op2 _ (compareOp CmpOp.NotEq) (D.int _) (D.int _) _); refine op_neI ?_)
  | ((with_reducible show Op1 _ (unaryOp UnaryOp.USub) (D.int _) _); refine op_negI ?_))
local macro_rules | `(tactic| walk_at "yset") => `(tactic| refine s_set ?_ (by walk_at "yk") (by rfl) (by walk_at "yi") (by intro _; rfl))
local macro_rules | `(tactic| walk_at "ynew") => `(tactic| refine s_new ?_ (by walk_at "yk") (by rfl) (by walk_at "yi") (by intro _; rfl))
local macro_rules | `(tactic| walk_at "yst") => `(tactic| first
  | ((with_reducible show R _ _ _ [] _); refine r_nil ?_)
  | ((with_reducible show R _ _ _ (_ :: _) _); refine r_cons ?_)
  | ((with_reducible show S1 _ _ _ (Stmt.Assign [Expr.Tuple [Expr.Name _ _, Expr.Name _ _] _ _] (Expr.Tuple [_, _] _ _) _) _); first | refine s_par ?_ (by walk_at "yk") (by walk_at "yk") (by walk_at "yi") (by walk_at "yi") (by decide) (by decide) (by rfl) (by rfl) (by rfl) (by rfl) (by intro _; rfl) | refine s_parC ?_ (by walk_at "yk") (by walk_at "yk") (by walk_at "yi") (by walk_at "yi") (by rfl) (by rfl) (by first | exact .inl rfl | exact .inr rfl) (by rfl) (by intro _; rfl))
  | ((with_reducible show S1 _ _ _ (Stmt.Assign [Expr.Name _ _] (Expr.List [] _) _) _); walk_at "ynew"; refine eo_nil ?_)
  | ((with_reducible show S1 _ _ _ (Stmt.Assign [Expr.Name _ _] (Expr.Dict [] [] _) _) _); walk_at "ynew"; refine eo_d0 ?_)
  | ((with_reducible show S1 _ _ _ (Stmt.Assign [Expr.Name _ _] (Expr.Call (Expr.Name "dict" _) _ _ _) _) _); walk_at "ynew")
  | ((with_reducible show S1 _ _ _ (Stmt.Assign [Expr.Name _ _] (Expr.Call (Expr.Name "list" _) _ _ _) _) _); walk_at "ynew")
  | ((with_reducible show S1 _ _ _ (Stmt.Assign [Expr.Name _ _] (Expr.Call (Expr.Name "sorted" _) _ _ _) _) _); walk_at "ynew")
  | ((with_reducible show S1 _ _ _ (Stmt.Assign [Expr.Name _ _] (Expr.ListComp _ _ _ _) _) _); fail)
  | ((with_reducible show S1 _ _ _ (Stmt.Assign [Expr.Name _ _] (Expr.DictComp _ _ _ _ _) _) _); fail)
  | ((with_reducible show S1 _ _ _ (Stmt.Assign [Expr.Name _ _] _ _) _); walk_at "yset")
  | ((with_reducible show S1 _ _ _ (Stmt.Assign [Expr.Subscript (Expr.Name _ _) _ _] _ _) _); refine s_rawL (by walk_at "yl") (by walk_at "yr") ?_; refine s_asg ?_ (by intro _; rfl) (by intro _; rfl) (by intro _; rfl))
  | ((with_reducible show S1 _ _ _ (Stmt.Assign [Expr.Subscript (Expr.Subscript _ _ _) _ _] _ _) _); refine s_asg ?_ (by intro _; rfl) (by intro _; rfl) (by intro _; rfl))
  | ((with_reducible show S1 _ _ _ (Stmt.Assign [Expr.Tuple _ _ _] _ _) _); refine s_asg ?_ (by intro _; rfl) (by intro _; rfl) (by intro _; rfl))
  | ((with_reducible show S1 _ _ _ (Stmt.Return (some _) _) _); refine s_ret ?_)
  | ((with_reducible show S1 _ _ _ (Stmt.Return none _) _); refine s_retN ?_)
  | ((with_reducible show S1 _ _ _ (Stmt.If _ _ _ _) _); refine s_if ?_)
  | ((with_reducible show S1 _ _ _ (Stmt.Pass _) _); refine s_pass ?_)
  | ((with_reducible show S1 _ _ _ (Stmt.Continue _) _); refine s_cont ?_)
  | ((with_reducible show S1 _ _ _ (Stmt.Break _) _); refine s_break ?_)
  | ((with_reducible show S1 _ _ _ (Stmt.Expr _ _) _); refine s_expr ?_ (by intro _; rfl)))
local macro_rules | `(tactic| walk_at "yg") => `(tactic| first
  | ((with_reducible show G _ _ _ (Expr.Name _ _) _ _); refine g_name (by walk_at "yp") (by walk_at "yk") (by rfl) ?_)
  | ((with_reducible show G _ _ _ (Expr.Subscript _ _ _) _ _); refine g_ixR ?_ (by intro _ _; rfl))
  | ((with_reducible show G _ _ _ (Expr.Tuple _ _ _) (D.tup _) _); refine g_tup ?_ (by rfl) (by intro _; rfl) (by intro _; rfl))
  | ((with_reducible show Gs _ _ _ [] [] _); refine gs_nil ?_)
  | ((with_reducible show Gs _ _ _ (_ :: _) (_ :: _) _); refine gs_cons ?_ (by intro _; rfl)))
local macro_rules | `(tactic| walk_at "ycz") => `(tactic| first
  | ((with_reducible show ∃ zs, Seens _ [D.int _] zs ∧ Cb _ (Value.builtin "abs") zs _); refine cz_abs ?_)
  | ((with_reducible show ∃ zs, Seens _ [D.int _] zs ∧ Cb _ (Value.type "int") zs _); refine cz_int ?_)
  | ((with_reducible show ∃ zs, Seens _ [D.tup _] zs ∧ Cb _ (Value.builtin "len") zs _); refine cz_lenT ?_)
  | ((with_reducible show ∃ zs, Seens _ [D.lst _] zs ∧ Cb _ (Value.builtin "len") zs _); refine cz_lenL ?_)
  | ((with_reducible show ∃ zs, Seens _ [un _] zs ∧ Cb _ (Value.builtin "len") zs _); refine cz_lenU ?_)
  | ((with_reducible show ∃ zs, Seens _ [grU _] zs ∧ Cb _ (Value.builtin "len") zs _); refine cz_lenG ?_)
  | ((with_reducible show ∃ zs, Seens _ [rwU _] zs ∧ Cb _ (Value.builtin "len") zs _); refine cz_lenW ?_)
  | ((with_reducible show ∃ zs, Seens _ [D.raw _] zs ∧ Cb _ (Value.builtin "len") zs _); first | refine cz_lenR (by walk_at "yr") ?_ | refine cz_lenD (by walk_at "yr") ?_)
  | ((with_reducible show ∃ zs, Seens _ [_, D.raw (V.ty _)] zs ∧ Cb _ (Value.builtin "isinstance") zs _); refine cz_isi (by rfl) (by with_reducible first | exact kb_ii | exact kb_ib | exact kb_tt | exact kb_ti | exact kb_nt | exact kb_ni | exact kb_it | exact kb_bi | exact kb_bb | exact kb_bt | exact kb_lt | exact kb_li | exact kb_st | exact kb_si | exact kb_ss | exact kb_nd) ?_))
local macro_rules | `(tactic| walk_at "yx") => `(tactic| first | refine ⟨_, rfl, ?_⟩ | refine ⟨_, by walk_at "yp", ?_⟩)
local macro_rules | `(tactic| walk_at "ymisc") => `(tactic| first
  | ((with_reducible show ∃ k, D.bl _ = D.bl k ∧ _); refine ⟨_, rfl, ?_⟩)
  | ((with_reducible show ∃ i z, D.int _ = D.int i ∧ ixD _ i = some z ∧ _); refine ⟨_, _, rfl, (by rfl), ?_⟩)
  | ((with_reducible show List.length _ ≤ 1000 ∧ _); refine ⟨(Nat.le_of_ble_eq_true (by rfl)), ?_⟩)
  | ((with_reducible show ∃ os i z f, D.int _ = D.int i ∧ Res _ _ (O.l os) f ∧ atI os i = some (O.s z) ∧ _); refine ⟨_, _, _, _, rfl, (by walk_at "yr"), (by rfl), ?_⟩)
  | ((with_reducible show ∃ w os i j f, D.raw _ = D.raw w ∧ D.int _ = D.int i ∧ Res _ w (O.l os) f ∧ ixN (List.length os) i = some j ∧ _); refine ⟨_, _, _, _, _, rfl, rfl, (by walk_at "yr"), (by rfl), ?_⟩)
  | ((with_reducible show ∃ w os1 f1, D.raw _ = D.raw w ∧ Res _ w (O.l os1) f1 ∧ _); refine ⟨_, _, _, rfl, (by walk_at "yr"), ?_⟩)
  | ((with_reducible show ∃ f, Put _ _ _ _ f ∧ _); refine ⟨_, by walk_at "yp", ?_⟩)
  | ((with_reducible show ∃ zs, Seens _ _ zs ∧ _); walk_at "ycz")
  | ((with_reducible show (_ = true → _) ∧ (_ = false → _)); first | refine br_t (by rfl) ?_ | refine br_f (by rfl) ?_)
  | ((with_reducible show (_ = false → _) ∧ (_ = true → _)); first | refine bq_t (by rfl) ?_ | refine bq_f (by rfl) ?_))
local macro_rules | `(tactic| walk_at "y1") => `(tactic| first
  | ((with_reducible show E _ _ _ _ _); walk_at "ye")
  | ((with_reducible show EA _ _ _ _ _); walk_at "yarg")
  | ((with_reducible show R _ _ _ _ _); walk_at "yst")
  | ((with_reducible show S1 _ _ _ _ _); walk_at "yst")
  | ((with_reducible show T _ _ _ _ _); walk_at "ytest")
  | ((with_reducible show TW _ _ _ _ _); walk_at "ytest")
  | ((with_reducible show Op2 _ _ _ _ _); walk_at "yop")
  | ((with_reducible show Op1 _ _ _ _); walk_at "yop")
  | ((with_reducible show Wv _ _ _ (Expr.Name _ _) _); first | refine w_resV (by walk_at "yl") (by walk_at "yk") (by rfl) (by walk_at "yr") ?_ | refine E.toW ?_)
  | ((with_reducible show Wv _ _ _ _ _); refine E.toW ?_)
  | ((with_reducible show G _ _ _ _ _ _); walk_at "yg")
  | ((with_reducible show Gs _ _ _ _ _ _); walk_at "yg")
  | walk_at "ymisc")
local macro_rules | `(tactic| walk_at "ygs") => `(tactic| repeat (first | ((with_reducible show G _ _ _ _ _ _); walk_at "yg") | ((with_reducible show Gs _ _ _ _ _ _); walk_at "yg")))
local macro_rules | `(tactic| walk_at "ymk") => `(tactic| refine eo_make (by with_reducible assumption) (by with_reducible assumption) (by with_reducible assumption) (by decide) (by walk_at "yk") (Nat.le_of_ble_eq_true (by rfl)) ?_ (by intro _; rfl) (by intro _; rfl))
local macro_rules | `(tactic| walk_at "ys") => `(tactic| repeat (walk_at "y1"))
local macro_rules | `(tactic| walk_at "ye2") => `(tactic| first
  | ((with_reducible show EP _ _ _ none _); refine ep_none ?_)
  | ((with_reducible show EP _ _ _ (some _) _); refine ep_some ?_)
  | ((with_reducible show ∃ xs, D.tup _ = D.tup xs ∧ _); refine ⟨_, rfl, ?_⟩)
  | ((with_reducible show ∃ i, D.int _ = D.int i ∧ _); refine ⟨_, rfl, ?_⟩)
  | ((with_reducible show ∃ z1 z2 f, [_, _] = [z1, z2] ∧ _); refine ⟨_, _, _, rfl, by walk_at "yp", _, by walk_at "yp", ?_⟩)
  | ((with_reducible show Op2 _ (compareOp CmpOp.Is) (D.bl _) (D.bl _) _); refine op_isB ?_)
  | ((with_reducible show Op2 _ (compareOp CmpOp.IsNot) (D.bl _) (D.bl _) _); refine op_isnB ?_)
  | ((with_reducible show E _ _ _ (Expr.List _ _) _); refine EO.toE (eo_lst ?_))
  | ((with_reducible show E _ _ _ (Expr.Subscript (Expr.Call _ _ _ _) _ _) _); refine e_ix ?_ (by intro _ _; rfl))
  | ((with_reducible show E _ _ _ (Expr.Call (Expr.Name "list" _) [_] [] _) _); refine EO.toE ?_; walk_at "ybO")
  | ((with_reducible show EO _ _ _ (Expr.List _ _) _); refine eo_lst ?_))
local macro_rules | `(tactic| walk_at "yS") => `(tactic| repeat (first | walk_at "y1" | walk_at "ye2"))
local macro_rules | `(tactic| walk_at "ybd") => `(tactic| first
  | ((with_reducible show Bd _ _ (Expr.Name _ _) _ _); exact bd_1 (by walk_at "yi") (by walk_at "yk") (by rfl))
  | ((with_reducible show Bd _ _ (Expr.Tuple [_, _] _ _) _ _); exact bd_2 (by walk_at "yi") (by walk_at "yk") (by rfl) (by walk_at "yi") (by walk_at "yk") (by rfl))
  | ((with_reducible show Bd _ _ (Expr.Tuple [_, _, _] _ _) _ _); exact bd_3 (by walk_at "yi") (by walk_at "yk") (by rfl) (by walk_at "yi") (by walk_at "yk") (by rfl) (by walk_at "yi") (by walk_at "yk") (by rfl)))
local macro_rules | `(tactic| walk_at "yw") => `(tactic| simp only [Ctx.blk, setsD, wipeV, List.foldl_cons, List.foldl_nil, List.set_cons_zero, List.set_cons_succ, List.map_cons, List.map_nil, List.append_nil, List.cons_append, List.nil_append])
local macro_rules | `(tactic| walk_at "yd") => `(tactic| dsimp only [List.nil_append, List.cons_append, O.fz])
local macro_rules | `(tactic| walk_at "yz") => `(tactic| try dsimp only)
local macro_rules | `(tactic| walk_at "ydg") => `(tactic| refine e_dgetV (by walk_at "yl") (by walk_at "yk") (by rfl) (by walk_at "yrd") ?_ (by intro _ _; rfl))
local macro_rules | `(tactic| walk_at "yix") => `(tactic| refine e_ixRV (by walk_at "yl") (by walk_at "yk") (by rfl) (by walk_at "yr") ?_ (by intro _ _; rfl))
local macro_rules | `(tactic| walk_at "yn1") => `(tactic| refine ⟨[_], _, .refl _, ?_⟩)
local macro_rules | `(tactic| walk_at "yn") => `(tactic| refine ⟨[], _, .refl _, ?_⟩)
local macro_rules | `(tactic| walk_at "ya") => `(tactic| simp only [startD, List.map_cons, List.map_nil, List.length_cons, List.length_nil, List.cons_append, List.nil_append, Nat.reduceAdd, Nat.reduceSub, List.replicate])
local macro_rules | `(tactic| walk_at "y0") => `(tactic| (simp only [startD, List.map_cons, List.map_nil, List.length_cons, List.length_nil, List.cons_append, List.nil_append, Nat.reduceAdd, Nat.reduceSub, List.replicate]; refine r_cons ?_))
set_option maxHeartbeats 1000000
def S_is_integer : Spec := fun zs rs P _ => ∃ i : Int, zs = [.int i] ∧ rs = [] ∧ P (.s (.bl true)) []
theorem f_is_integer {g : Pg} (hd : Dx g "is_integer" st_is_integer) (m1 : g.mg "isinstance" = none) (m2 : g.mg "int" = none) (m3 : g.mg "bool" = none) : Fn g "is_integer" 1 S_is_integer := by
  refine fm_is_integer hd (fun zs rs P P2 h => by obtain ⟨i, rfl, _⟩ := h; rfl) fun zs rs P P2 h => ?_
  obtain ⟨i, rfl, rfl, hP⟩ := h
  walk_at "y0"
  walk_at "ys"
  exact fin_nil hP
def S_is_within : Spec := fun zs rs P _ => ∃ i a b : Int, zs = [.int i, .int a, .int b] ∧ rs = [] ∧ P (.s (.bl (decide (a ≤ i ∧ i ≤ b)))) []
theorem f_is_within {g : Pg} (hd : Dx g "is_within" st_is_within) (f1 : Fn g "is_integer" 1 S_is_integer) : Fn g "is_within" 2 S_is_within := by
  refine fm_is_within hd (fun zs rs P P2 h => by obtain ⟨i, a, b, rfl, _⟩ := h; rfl) fun zs rs P P2 h => ?_
  obtain ⟨i, a, b, rfl, rfl, hP⟩ := h
  walk_at "y0"
  walk_at "ys"
  walk_at "yn"
  refine ⟨i, rfl, rfl, ?_⟩
  walk_at "yd"
  walk_at "ys"
  refine ⟨fun h => ?_, fun h => ?_⟩
  · walk_at "ys"
    refine fin_nil ?_
    rw [show decide (i ≤ b) = decide (a ≤ i ∧ i ≤ b) by simp [of_decide_eq_true h]]
    exact hP
  · refine fin_nil ?_
    rw [show false = decide (a ≤ i ∧ i ≤ b) by simp [of_decide_eq_false h]]
    exact hP
def S_divisor : Spec := fun zs rs P _ => ∃ a b : Int, zs = [.int a, .int b] ∧ rs = [] ∧ P (.s (.int (Int.gcd a b))) []
theorem f_divisor {g : Pg} (hd : Dx g "divisor" st_divisor) (m1 : g.mg "abs" = none) : Fn g "divisor" 1 S_divisor := by
  refine fm_divisor hd (fun zs rs P P2 h => by obtain ⟨i, a, rfl, _⟩ := h; rfl) fun zs rs P P2 h => ?_
  obtain ⟨a, b, rfl, rfl, hP⟩ := h
  walk_at "y0"
  walk_at "ys"
  refine ⟨_, _, _, rfl, by walk_at "yp", _, by walk_at "yp", ?_⟩
  refine r_cons ?_
  refine s_while (fun m env => ∃ x y : Nat, env = ⟨[some (.int x), some (.int y)], []⟩ ∧ m = y ∧ Nat.gcd x y = Int.gcd a b) ?_ fun m env hI => ?_
  · exact ⟨b.natAbs, a.natAbs, b.natAbs, rfl, rfl, rfl⟩
  obtain ⟨x, y, rfl, rfl, hg⟩ := hI
  walk_at "ys"
  refine ⟨fun h => ?_, fun h => ?_⟩
  · have hy : 0 < m := by simpa using h
    walk_at "ys"
    refine ⟨_, _, _, rfl, by walk_at "yp", _, by walk_at "yp", ?_⟩
    walk_at "ys"
    exact ⟨x % m, Nat.mod_lt _ hy, m, x % m, rfl, rfl, by rw [Nat.gcd_comm, ← Nat.gcd_rec, Nat.gcd_comm, hg]⟩
  · have hy : m = 0 := by
      have := of_decide_eq_false h
      omega
    subst hy
    walk_at "ys"
    refine fin_nil ?_
    rw [Nat.gcd_zero_right] at hg
    rw [hg]; exact hP
set_option maxHeartbeats 1000000
def S_lowest : Spec := fun zs rs P _ => ∃ t b : Int, zs = [.int t, .int b] ∧ rs = [] ∧ 0 < b ∧ Sz 4000 b ∧ P (.s (fr (Rat.divInt t b))) []
theorem f_lowest {g : Pg} (hd : Dx g "lowest" st_lowest) (f1 : Fn g "divisor" 1 S_divisor) : Fn g "lowest" 2 S_lowest := by
  refine fm_lowest hd (fun zs rs P P2 h => by obtain ⟨i, a, rfl, _⟩ := h; rfl) fun zs rs P P2 h => ?_
  obtain ⟨t, b, rfl, rfl, hb, hz, hP⟩ := h
  have g1 := gcd_pos (t := t) hb
  have g2 := gcd_small (t := t) hb hz (Nat.le_refl _)
  rw [fr_divInt hb] at hP
  walk_at "y0"
  walk_at "ys"
  walk_at "yn"
  refine ⟨t, b, rfl, rfl, ?_⟩
  walk_at "yd"
  walk_at "ys"
  refine ⟨fun h => absurd (of_decide_eq_true h) (by omega), fun h => ?_⟩
  walk_at "ys"
  refine op_divI g1 g2 ?_
  walk_at "ys"
  refine op_divI g1 g2 ?_
  walk_at "ys"
  exact fin_nil hP
def S_is_fraction : Spec := fun zs rs P _ => ∃ q : Rat, zs = [fr q] ∧ rs = [] ∧ P (.s (.bl true)) []
theorem f_is_fraction {g : Pg} (hd : Dx g "is_fraction" st_is_fraction) (f1 : Fn g "divisor" 1 S_divisor) (f2 : Fn g "is_integer" 1 S_is_integer) (m1 : g.mg "isinstance" = none) (m2 : g.mg "tuple" = none) (m3 : g.mg "len" = none) : Fn g "is_fraction" 2 S_is_fraction := by
  refine fm_is_fraction hd (fun zs rs P P2 h => by obtain ⟨i, rfl, _⟩ := h; rfl) fun zs rs P P2 h => ?_
  obtain ⟨q, rfl, rfl, hP⟩ := h
  simp only [fr]
  have hq : (1 : Int) ≤ (q.den : Int) := pos_den q
  walk_at "y0"
  walk_at "ys"
  walk_at "yn"
  refine ⟨_, rfl, rfl, ?_⟩
  walk_at "yd"
  walk_at "ys"
  walk_at "yn"
  refine ⟨_, rfl, rfl, ?_⟩
  walk_at "yd"
  walk_at "ys"
  refine ⟨fun _ => ?_, fun h => absurd (of_decide_eq_false h) (by omega)⟩
  walk_at "ys"
  walk_at "yn"
  refine ⟨_, _, rfl, rfl, ?_⟩
  walk_at "yd"
  walk_at "ys"
  refine fin_nil ?_
  have e : Int.gcd q.num (q.den : Int) = 1 := by
    rw [Int.gcd_eq_natAbs_gcd_natAbs, Int.natAbs_natCast]
    exact q.reduced
  rw [e]
  exact hP
set_option maxHeartbeats 1000000
def S_plus : Spec := fun zs rs P _ => ∃ p q : Rat, zs = [fr p, fr q] ∧ rs = [] ∧ Qz 1900 p ∧ Qz 1900 q ∧ P (.s (fr (p + q))) []
theorem f_plus {g : Pg} (hd : Dx g "plus" st_plus) (f1 : Fn g "lowest" 2 S_lowest) : Fn g "plus" 3 S_plus := by
  refine fm_plus hd (fun zs rs P P2 h => by obtain ⟨i, a, rfl, _⟩ := h; rfl) fun zs rs P P2 h => ?_
  obtain ⟨p, q, rfl, rfl, hp, hq, hP⟩ := h
  rw [add_eq] at hP
  simp only [fr] at hP ⊢
  walk_at "y0"
  walk_at "ys"
  refine op_mulS hp.1 hq.den (by decide) ?_
  walk_at "ys"
  refine op_mulS hq.1 hp.den (by decide) ?_
  walk_at "ys"
  refine op_mulS hp.den hq.den (by decide) ?_
  walk_at "ys"
  walk_at "yn"
  refine ⟨_, _, rfl, rfl, Int.mul_pos (pos_den p) (pos_den q), (hp.den.mul hq.den).mono (by decide), ?_⟩
  exact fin_nil hP
def S_minus : Spec := fun zs rs P _ => ∃ p q : Rat, zs = [fr p, fr q] ∧ rs = [] ∧ Qz 1900 p ∧ Qz 1900 q ∧ P (.s (fr (p - q))) []
theorem f_minus {g : Pg} (hd : Dx g "minus" st_minus) (f1 : Fn g "lowest" 2 S_lowest) : Fn g "minus" 3 S_minus := by
  refine fm_minus hd (fun zs rs P P2 h => by obtain ⟨i, a, rfl, _⟩ := h; rfl) fun zs rs P P2 h => ?_
  obtain ⟨p, q, rfl, rfl, hp, hq, hP⟩ := h
  rw [sub_eq] at hP
  simp only [fr] at hP ⊢
  walk_at "y0"
  walk_at "ys"
  refine op_mulS hp.1 hq.den (by decide) ?_
  walk_at "ys"
  refine op_mulS hq.1 hp.den (by decide) ?_
  walk_at "ys"
  refine op_mulS hp.den hq.den (by decide) ?_
  walk_at "ys"
  walk_at "yn"
  refine ⟨_, _, rfl, rfl, Int.mul_pos (pos_den p) (pos_den q), (hp.den.mul hq.den).mono (by decide), ?_⟩
  exact fin_nil hP
def S_unitless : Spec := fun zs rs P _ => ∃ b : Nat, zs = [.int b] ∧ rs = [] ∧ b ≤ 1000 ∧ P (.s (un (u0 b))) []
theorem f_unitless {g : Pg} (hd : Dx g "unitless" st_unitless) : Fn g "unitless" 1 S_unitless := by
  refine fm_unitless hd (fun zs rs P P2 h => by obtain ⟨i, rfl, _⟩ := h; rfl) fun zs rs P P2 h => ?_
  obtain ⟨b, rfl, rfl, hb, hP⟩ := h
  walk_at "y0"
  walk_at "ys"
  refine op_repT (by simp) (by omega) (by omega) (by decide) ?_
  refine fin_nil ?_
  have e : D.tup (List.replicate (b : Int).toNat [D.tup [.int 0, .int 1]]).flatten = un (u0 b) := by
    simp only [un, u0, Int.toNat_natCast, List.map_replicate]
    congr 1
    clear hP
    induction b with
    | zero => rfl
    | succ b ih => 
      rw [List.replicate_succ, List.flatten_cons, List.replicate_succ, ih (by omega)]
      rfl
  rw [e]
  exact hP
def S_unit_plus : Spec := fun zs rs P _ => ∃ u v : Un, zs = [un u, un v] ∧ rs = [] ∧ u.length = v.length ∧ u.length ≤ 1000 ∧ Uz 1900 u ∧ Uz 1900 v ∧ P (.s (un (uAdd u v))) []
theorem f_unit_plus {g : Pg} (hd : Dx g "unit_plus" st_unit_plus) (f1 : Fn g "plus" 3 S_plus) (m1 : g.mg "tuple" = none) (m2 : g.mg "zip" = none) : Fn g "unit_plus" 4 S_unit_plus := by
  refine fm_unit_plus hd (fun zs rs P P2 h => by obtain ⟨i, a, rfl, _⟩ := h; rfl) fun zs rs P P2 h => ?_
  obtain ⟨u, v, rfl, rfl, hl, hz, hu, hv, hP⟩ := h
  simp only [un]
  walk_at "y0"
  walk_at "ys"
  refine e_lcT [("first", 2), ("second", 3)] (by kernel_rfl) ?_ (by intro _ _; rfl)
  refine it_zip m2 (by walk_at "yk") ?_ (by intro _; rfl) (by intro _; rfl)
  walk_at "ys"
  refine ⟨u.map fr, v.map fr, .inl rfl, (uAdd u v).map fr, by simp [zipD_len, uAdd], by simp [zipD_len]; omega, fun _ _ _ => trivial, fun k z y hz hy => ?_, ?_⟩
  · obtain ⟨a, b, ha, hb, rfl⟩ := zipD_fr hz
    obtain rfl := zipW_at hy ha hb
    dsimp only
    refine ⟨_, by walk_at "ybd", by simp, ?_⟩
    walk_at "yw"
    walk_at "ys"
    walk_at "yn"
    refine ⟨_, _, rfl, rfl, hu.at ha, hv.at hb, ?_⟩
    exact ⟨rfl, rfl⟩
  · dsimp only
    walk_at "ys"
    exact cbF_tuple rfl (fin_nil hP)
def S_unit_minus : Spec := fun zs rs P _ => ∃ u v : Un, zs = [un u, un v] ∧ rs = [] ∧ u.length = v.length ∧ u.length ≤ 1000 ∧ Uz 1900 u ∧ Uz 1900 v ∧ P (.s (un (uSub u v))) []
theorem f_unit_minus {g : Pg} (hd : Dx g "unit_minus" st_unit_minus) (f1 : Fn g "minus" 3 S_minus) (m1 : g.mg "tuple" = none) (m2 : g.mg "zip" = none) : Fn g "unit_minus" 4 S_unit_minus := by
  refine fm_unit_minus hd (fun zs rs P P2 h => by obtain ⟨i, a, rfl, _⟩ := h; rfl) fun zs rs P P2 h => ?_
  obtain ⟨u, v, rfl, rfl, hl, hz, hu, hv, hP⟩ := h
  simp only [un]
  walk_at "y0"
  walk_at "ys"
  refine e_lcT [("first", 2), ("second", 3)] (by kernel_rfl) ?_ (by intro _ _; rfl)
  refine it_zip m2 (by walk_at "yk") ?_ (by intro _; rfl) (by intro _; rfl)
  walk_at "ys"
  refine ⟨u.map fr, v.map fr, .inl rfl, (uSub u v).map fr, by simp [zipD_len, uSub], by simp [zipD_len]; omega, fun _ _ _ => trivial, fun k z y hz hy => ?_, ?_⟩
  · obtain ⟨a, b, ha, hb, rfl⟩ := zipD_fr hz
    obtain rfl := zipW_at hy ha hb
    dsimp only
    refine ⟨_, by walk_at "ybd", by simp, ?_⟩
    walk_at "yw"
    walk_at "ys"
    walk_at "yn"
    refine ⟨_, _, rfl, rfl, hu.at ha, hv.at hb, ?_⟩
    exact ⟨rfl, rfl⟩
  · dsimp only
    walk_at "ys"
    exact cbF_tuple rfl (fin_nil hP)
set_option maxHeartbeats 1000000
def S_is_unit_of : Spec := fun zs rs P _ => ∃ u : Un, zs = [.int (u.length : Nat), un u] ∧ rs = [] ∧ u.length ≤ 1000 ∧ P (.s (.bl true)) []
theorem f_is_unit_of {g : Pg} (hd : Dx g "is_unit_of" st_is_unit_of) (f1 : Fn g "is_fraction" 2 S_is_fraction) (m1 : g.mg "isinstance" = none) (m2 : g.mg "tuple" = none) (m3 : g.mg "len" = none) (m4 : g.mg "all" = none) : Fn g "is_unit_of" 3 S_is_unit_of := by
  refine fm_is_unit_of hd (fun zs rs P P2 h => by obtain ⟨i, rfl, _⟩ := h; rfl) fun zs rs P P2 h => ?_
  obtain ⟨u, rfl, rfl, hz, hP⟩ := h
  simp only [un]
  walk_at "y0"
  walk_at "ys"
  have e : decide (((u.map fr).length : Int) = (u.length : Int)) = true := by simp
  refine ⟨fun _ => ?_, fun h => absurd (h.symm.trans e) (by decide)⟩
  walk_at "ys"
  refine e_lcT [("item", 2)] (by kernel_rfl) ?_ (by intro _ _; rfl)
  refine it_tup ?_
  walk_at "ys"
  refine ⟨_, rfl, (u.map fun _ => true).map D.bl, by simp, by simp; omega, fun _ _ _ => trivial, fun k z y hz hy => ?_, ?_⟩
  · obtain ⟨a, ha, rfl⟩ := map_get hz
    have : y = .bl true := by
      obtain ⟨b, hb, rfl⟩ := map_get hy
      obtain ⟨_, _, rfl⟩ := map_get hb
      rfl
    subst this
    dsimp only
    refine ⟨_, by walk_at "ybd", by simp, ?_⟩
    walk_at "yw"
    walk_at "ys"
    walk_at "yn"
    exact ⟨_, rfl, rfl, rfl, rfl⟩
  · dsimp only
    walk_at "ys"
    refine cz_all rfl ?_
    refine fin_nil ?_
    have e : (u.map fun _ => true).all id = true := by simp
    rw [e]
    exact hP
def S_is_part : Spec := fun zs rs P _ => ∃ xs : List D, zs = [.tup xs] ∧ rs = [] ∧ 1 ≤ xs.length ∧ xs.length ≤ 10 ∧ P (.s (.bl true)) []
theorem f_is_part {g : Pg} (hd : Dx g "is_part" st_is_part) (m1 : g.mg "isinstance" = none) (m2 : g.mg "tuple" = none) (m3 : g.mg "len" = none) (m4 : Gc g "MOST_ROWS" (.int 10)) : Fn g "is_part" 1 S_is_part := by
  refine fm_is_part hd (fun zs rs P P2 h => by obtain ⟨i, rfl, _⟩ := h; rfl) fun zs rs P P2 h => ?_
  obtain ⟨xs, rfl, rfl, h1, h2, hP⟩ := h
  walk_at "y0"
  walk_at "ys"
  refine ⟨fun _ => ?_, fun h => absurd (of_decide_eq_false h) (by omega)⟩
  walk_at "ys"
  refine fin_nil ?_
  rw [decide_eq_true (by omega)]
  exact hP
def S_is_cell : Spec := fun zs rs P _ => ∃ (b : Nat) (q : Option (U b)), zs = [.int b, clU q] ∧ rs = [] ∧ b ≤ 1000 ∧ (∀ u, q = some u → ∀ r ∈ u.1, r.num.natAbs ≤ 6 ∧ r.den ≤ 4) ∧ P (.s (.bl true)) []
theorem f_is_cell {g : Pg} (hd : Dx g "is_cell" st_is_cell) (f1 : Fn g "is_unit_of" 3 S_is_unit_of) (m1 : g.mg "abs" = none) (m4 : g.mg "all" = none) (m5 : Gc g "MOST_TOP" (.int 6)) (m6 : Gc g "MOST_BOTTOM" (.int 4)) : Fn g "is_cell" 4 S_is_cell := by
  refine fm_is_cell hd (fun zs rs P P2 h => by obtain ⟨i, a, rfl, _⟩ := h; rfl) fun zs rs P P2 h => ?_
  obtain ⟨b, q, rfl, rfl, hb, hq, hP⟩ := h
  cases q with
  | none =>
    simp only [clU]
    walk_at "y0"
    walk_at "ys"
    exact fin_nil hP
  | some u =>
    have hu := hq u rfl
    obtain ⟨u, rfl⟩ := u
    simp only [clU]
    walk_at "y0"
    walk_at "ys"
    walk_at "yn"
    refine ⟨_, rfl, rfl, hb, ?_⟩
    walk_at "yd"
    walk_at "ys"
    refine e_lcT [("top", 2), ("bottom", 3)] (by kernel_rfl) ?_ (by intro _ _; rfl)
    refine it_tup ?_
    walk_at "ys"
    refine ⟨_, rfl, (u.map fun _ => true).map D.bl, by simp, by simp; omega, fun _ _ _ => trivial, fun k z y hz hy => ?_, ?_⟩
    · obtain ⟨a, ha, rfl⟩ := map_get hz
      have : y = .bl true := by
        obtain ⟨b, hb, rfl⟩ := map_get hy
        obtain ⟨_, _, rfl⟩ := map_get hb
        rfl
      subst this
      have ⟨h1, h2⟩ := hu a (List.mem_of_getElem? ha)
      simp only [fr]
      refine ⟨_, Bd.tup (Bds.cons (Bd.name (i := 2) rfl (by walk_at "yk") rfl) (Bds.cons (Bd.name (i := 3) rfl (by walk_at "yk") rfl) .nil (by intro _; rfl)) (by intro _; rfl)) (by intro _; rfl) (by intro _; rfl), by simp, ?_⟩
      walk_at "yw"
      walk_at "ys"
      refine ⟨fun _ => ?_, fun h => absurd (of_decide_eq_false h) (by omega)⟩
      walk_at "ys"
      exact ⟨by rw [decide_eq_true (by omega)], rfl⟩
    · dsimp only
      walk_at "ys"
      refine cz_all rfl ?_
      refine fin_nil ?_
      have e : (u.map fun _ => true).all id = true := by simp
      rw [e]
      exact hP
set_option maxHeartbeats 1000000
theorem ixD_nat {xs : List D} {k : Nat} {z : D} (h : xs[k]? = some z) : ixD (.tup xs) (k : Int) = some z := L2.atI_nat h
def S_check_rows : Spec := fun zs rs P _ => ∃ (b n m : Nat) (rows : GR b), zs = [.int b, grU rows] ∧ rs = [] ∧ Gv n m rows ∧ P (.s .non) []
theorem f_check_rows {g : Pg} (hd : Dx g "check_rows" st_check_rows) (f1 : Fn g "is_part" 1 S_is_part) (f2 : Fn g "is_cell" 4 S_is_cell) (m1 : g.mg "enumerate" = none) (m2 : g.mg "len" = none) : Fn g "check_rows" 5 S_check_rows := by
  refine fm_check_rows hd (fun zs rs P P2 h => by obtain ⟨i, a, b, c, rfl, _⟩ := h; rfl) fun zs rs P P2 h => ?_
  obtain ⟨b, n, m, rows, rfl, rfl, hg, hP⟩ := h
  obtain ⟨r0, hr0⟩ : ∃ r0, rows[0]? = some r0 := ⟨rows[0]'(by rw [hg.len]; exact hg.n1), List.getElem?_eq_getElem _⟩
  have hr0' : (rows.map rwU)[0]? = some (rwU r0) := by rw [List.getElem?_map, hr0]; rfl
  have q0 : r0.length = m := hg.row r0 (List.mem_of_getElem? hr0)
  simp only [grU]
  walk_at "y0"
  walk_at "ys"
  refine s_for ?_ (by intro _ _; rfl)
  refine it_enum m1 (by walk_at "yk") ?_ (by intro _; rfl)
  walk_at "ys"
  refine ⟨_, rfl, fun _ env2 => ∃ x1 x2, env2 = ⟨[some (.int b), some (.tup (rows.map rwU)), x1, x2, none, none], []⟩, ⟨_, _, rfl⟩, fun _ _ _ _ => trivial, ?_, ?_⟩
  · intro k z env2 hz ⟨x1, x2, e⟩
    subst e
    obtain ⟨x, hx, rfl⟩ := enumD_get hz
    obtain ⟨r, hr, rfl⟩ := map_get hx
    have q1 := hg.row r (List.mem_of_getElem? hr)
    have q2 := hg.cell r (List.mem_of_getElem? hr)
    simp only [rwU]
    walk_at "ys"
    walk_at "yn"
    refine ⟨_, rfl, rfl, by rw [List.length_map, q1]; exact hg.m1, by rw [List.length_map, q1]; exact hg.m2, ?_⟩
    walk_at "yd"
    walk_at "ys"
    refine ⟨_, _, rfl, ixD_nat (k := 0) hr0', ?_⟩
    simp only [rwU]
    walk_at "ys"
    refine ⟨fun h => absurd h (by simp [q0, q1]), fun _ => ?_⟩
    walk_at "ys"
    exact ⟨_, _, rfl⟩
  · intro env2 ⟨x1, x2, e⟩
    subst e
    walk_at "ys"
    refine s_for ?_ (by intro _ _; rfl)
    refine it_enum m1 (by walk_at "yk") ?_ (by intro _; rfl)
    walk_at "ys"
    refine ⟨_, rfl, fun _ env2 => ∃ x1 x2 x3 x4, env2 = ⟨[some (.int b), some (.tup (rows.map rwU)), x1, x2, x3, x4], []⟩, ⟨_, _, _, _, rfl⟩, fun _ _ _ _ => trivial, ?_, ?_⟩
    · intro k z env2 hz ⟨x1, x2, x3, x4, e⟩
      subst e
      obtain ⟨x, hx, rfl⟩ := enumD_get hz
      obtain ⟨r, hr, rfl⟩ := map_get hx
      have q1 := hg.row r (List.mem_of_getElem? hr)
      have q2 := hg.cell r (List.mem_of_getElem? hr)
      simp only [rwU]
      walk_at "ys"
      refine s_for ?_ (by intro _ _; rfl)
      refine it_enum m1 (by walk_at "yk") ?_ (by intro _; rfl)
      walk_at "ys"
      refine ⟨_, rfl, fun _ env2 => ∃ x1 x2 x3 x4, env2 = ⟨[some (.int b), some (.tup (rows.map rwU)), x1, x2, x3, x4], []⟩, ⟨_, _, _, _, rfl⟩, fun _ _ _ _ => trivial, ?_, ?_⟩
      · intro k z env2 hz ⟨x1, x2, x3, x4, e⟩
        subst e
        obtain ⟨x, hx, rfl⟩ := enumD_get hz
        obtain ⟨q, hr, rfl⟩ := map_get hx
        have hq : ∀ u, q = some u → ∀ r ∈ u.1, r.num.natAbs ≤ 6 ∧ r.den ≤ 4 := fun u e => q2 u (by rw [← e]; exact List.mem_of_getElem? hr)
        walk_at "ys"
        walk_at "yn"
        refine ⟨_, _, rfl, rfl, by have := hg.hb; omega, hq, ?_⟩
        walk_at "yd"
        walk_at "ys"
        exact ⟨_, _, _, _, rfl⟩
      · intro env2 ⟨x1, x2, x3, x4, e⟩
        subst e
        walk_at "ys"
        exact ⟨_, _, _, _, rfl⟩
    · intro env2 ⟨x1, x2, x3, x4, e⟩
      subst e
      walk_at "ys"
      exact fin_nil hP
set_option maxHeartbeats 1000000
def gD (C : Addr) {b : Nat} (rows : GR b) : D := .ins C ["bases", "rows"] [.int b, grU rows]
def gO (C : Addr) {b : Nat} (rows : GR b) : O := .i C ["bases", "rows"] [.s (.int b), .s (grU rows)]
/-- what the class Grid is -/
structure GridC (g : Pg) (C : Addr) (f : Addr) : Prop where
  gm : g.mg "Grid" = some (.ref C)
  gk : Mk g.K C f
  cls : Cls g.K C
  n1 : NoAttr g.K C "bases"
  n2 : NoAttr g.K C "rows"
def S_Grid_init (C : Addr) : Spec := fun zs rs P _ => ∃ (b n m : Nat) (rows : GR b) (w : V), zs = [.raw w, .int b, grU rows] ∧ rs = [(w, .i C [] [])] ∧ Gv n m rows ∧ P (.s .non) [(w, gO C rows)]
theorem f_Grid_init {g : Pg} {C f : Addr} {fd : FuncData} {qual : Str} (G : GridC g C f) (F : FunD g.K "__init__" qual (defArgs st_Grid_init) (defBody st_Grid_init) (defScope st_Grid_init) [] [] f fd) (f1 : Fn g "is_part" 1 S_is_part) (f2 : Fn g "check_rows" 5 S_check_rows) (f3 : Fn g "is_within" 2 S_is_within) (m1 : Gc g "MOST_BASES" (.int 3)) : FnI g f 6 (S_Grid_init C) := by
  refine fnI F sc_Grid_init nk_Grid_init (F.bindsN fun _ _ _ _ _ _ us hl => match us, hl with | [_, _, _], _ => rfl) (fun zs rs P P2 h => by obtain ⟨b, n, m, rows, w, rfl, _⟩ := h; rfl) fun zs rs P P2 h => ?_
  obtain ⟨b, n, m, rows, w, rfl, rfl, hg, hP⟩ := h
  simp only [grU]
  walk_at "y0"
  walk_at "ys"
  walk_at "yn"
  refine ⟨_, _, _, rfl, rfl, ?_⟩
  rw [decide_eq_true (by have := hg.hb1; have := hg.hb; omega)]
  walk_at "yd"
  walk_at "ys"
  walk_at "yn"
  refine ⟨_, rfl, rfl, by rw [List.length_map, hg.len]; exact hg.n1, by rw [List.length_map, hg.len]; exact hg.n2, ?_⟩
  walk_at "yd"
  walk_at "ys"
  walk_at "yn"
  refine ⟨b, n, m, rows, rfl, rfl, hg, ?_⟩
  walk_at "yd"
  walk_at "ys"
  refine s_field ?_ (by intro _; rfl)
  walk_at "ys"
  refine ⟨_, _, _, _, _, rfl, by walk_at "yr", G.cls, G.n1, by decide, by decide, ?_⟩
  walk_at "ys"
  refine s_field ?_ (by intro _; rfl)
  walk_at "ys"
  refine ⟨_, _, _, _, _, rfl, by walk_at "yr", G.cls, G.n2, by decide, by decide, ?_⟩
  walk_at "ys"
  exact fin_one .hd hP

set_option maxHeartbeats 1000000
/-! rows as columns -/
def turned {b : Nat} (R : GR b) : GR b := (List.range R.length).map fun j => R.map fun r => (r[j]?).join
theorem turned_get {b : Nat} {R : GR b} {k : Nat} {r : List (Option (U b))} (h : (turned R)[k]? = some r) : k < R.length ∧ r = R.map fun r => (r[k]?).join := by
  obtain ⟨x, h1, rfl⟩ := map_get h
  obtain ⟨h2, h3⟩ := List.getElem?_eq_some_iff.mp h1
  simp at h2 h3
  subst h3
  exact ⟨h2, rfl⟩
theorem turned_len {b : Nat} {R : GR b} : (turned R).length = R.length := by simp [turned]
theorem turned_sq {b m : Nat} {R : GR b} (s : Sq R m) : Sq (turned R) m := ⟨turned_len.trans s.len, fun r hr => by
  obtain ⟨k, hk⟩ := List.mem_iff_getElem?.mp hr
  rw [(turned_get hk).2]; simp [s.len]⟩
theorem tie_turned {b m : Nat} {R : GR b} (s : Sq R m) (p q : Nat) : tie (turned R) p q = tie R q p := by
  unfold tie
  by_cases hp : p < m
  · have e : (turned R)[p]? = some (R.map fun r => (r[p]?).join) := by
      unfold turned
      rw [List.getElem?_map, List.getElem?_range (by rw [s.len]; exact hp)]
      rfl
    rw [e]
    simp only [Option.getD_some, List.getElem?_map]
    cases h : R[q]? with
    | none => simp
    | some r => simp
  · have e : (turned R)[p]? = none := List.getElem?_eq_none (by rw [turned_len, s.len]; omega)
    rw [e]
    cases h : R[q]? with
    | none => simp
    | some r =>
      have := s.row r (List.mem_of_getElem? h)
      simp [show r[p]? = none from List.getElem?_eq_none (by omega)]
theorem Tb.turned {b m n : Nat} {R : GR b} (s : Sq R m) (h : Tb R n) : Tb (turned R) n := fun p q a e => h q p a (by rw [← tie_turned s]; exact e)
def S_turned_rows : Spec := fun zs rs P _ => ∃ (b m : Nat) (R : GR b), zs = [grU R] ∧ rs = [] ∧ Sq R m ∧ m ≤ 10 ∧ P (.s (lsU (turned R))) []
theorem f_turned_rows {g : Pg} (hd : Dx g "turned_rows" st_turned_rows) (m1 : g.mg "range" = none) (m2 : g.mg "len" = none) : Fn g "turned_rows" 1 S_turned_rows := by
  refine fm_turned_rows hd (fun zs rs P P2 h => by obtain ⟨b, m, R, rfl, _⟩ := h; rfl) fun zs rs P P2 h => ?_
  obtain ⟨b, m, R, rfl, rfl, hg, hm, hP⟩ := h
  simp only [grU]
  walk_at "y0"
  walk_at "ys"
  refine e_lcT [("place", 1)] (by kernel_rfl) ?_ (by intro _ _; rfl)
  refine it_rng m1 (by walk_at "yk") ?_ (by intro _; rfl)
  walk_at "ys"
  refine ⟨_, rfl, by simp [hg.len]; omega, ?_⟩
  refine ⟨(turned R).map rlU, by simp [turned_len], by simp [hg.len]; omega, fun _ _ _ => trivial, fun k z y hz hy => ?_, ?_⟩
  · obtain ⟨hk, rfl⟩ := rng_get hz
    obtain ⟨r, hr, rfl⟩ := map_get hy
    rw [(turned_get hr).2]
    dsimp only
    refine ⟨_, by walk_at "ybd", by simp, ?_⟩
    walk_at "yw"
    refine e_lcT [("row", 2)] (by kernel_rfl) ?_ (by intro _ _; rfl)
    refine it_tup ?_
    walk_at "ys"
    refine ⟨_, rfl, (R.map fun r => (r[k]?).join).map clU, by simp, by simp [hg.len]; omega, fun _ _ _ => trivial, fun i z y hz hy => ?_, ?_⟩
    · obtain ⟨r1, hr1, rfl⟩ := map_get hz
      obtain ⟨q, hq, rfl⟩ := map_get hy
      obtain ⟨r2, hr2, rfl⟩ := map_get hq
      rw [hr1] at hr2
      cases hr2
      have hl := hg.row r1 (List.mem_of_getElem? hr1)
      have hk' : k < r1.length := by simp [hg.len] at hk; omega
      dsimp only
      refine ⟨_, by walk_at "ybd", by simp, ?_⟩
      walk_at "yw"
      walk_at "ys"
      refine ⟨_, _, rfl, ixD_nat (z := clU r1[k]) (by rw [List.getElem?_map, List.getElem?_eq_getElem hk']; rfl), ?_⟩
      exact ⟨by rw [List.getElem?_eq_getElem hk']; rfl, rfl⟩
    · exact ⟨rfl, rfl⟩
  · exact fin_nil hP
def S_check_square_grid (C : Addr) : Spec := fun zs rs P _ => ∃ (b m : Nat) (R : GR b), zs = [gD C R] ∧ rs = [] ∧ Gv m m R ∧ P (.s .non) []
theorem f_check_square_grid {g : Pg} {C f : Addr} (G : GridC g C f) (hd : Dx g "check_square_grid" st_check_square_grid) (m2 : g.mg "len" = none) : Fn g "check_square_grid" 1 (S_check_square_grid C) := by
  refine fm_check_square_grid hd (fun zs rs P P2 h => by obtain ⟨b, m, R, rfl, _⟩ := h; rfl) fun zs rs P P2 h => ?_
  obtain ⟨b, m, R, rfl, rfl, hg, hP⟩ := h
  have h0 : 0 < R.length := by rw [hg.len]; exact hg.n1
  simp only [gD, grU]
  walk_at "y0"
  walk_at "ys"
  refine ⟨_, _, _, _, _, rfl, G.cls, G.n2, rfl, rfl, ?_⟩
  walk_at "ys"
  refine ⟨_, _, _, _, _, rfl, G.cls, G.n2, rfl, rfl, ?_⟩
  walk_at "ys"
  refine ⟨_, _, rfl, ixD_nat (k := 0) (z := rwU R[0]) (by rw [List.getElem?_map, List.getElem?_eq_getElem h0]; rfl), ?_⟩
  simp only [rwU]
  walk_at "ys"
  refine ⟨fun h => absurd h (by simp [hg.row _ (List.getElem_mem h0), hg.len]), fun _ => ?_⟩
  walk_at "ys"
  exact fin_nil hP

set_option maxHeartbeats 1000000
/-! led pairs -/
def ledI {b : Nat} (a : Option (U b)) (i : Nat) (rb : List (Option (U b))) (n : Nat) : List (Pr × U b) := (List.range n).flatMap fun j => match a, (rb[j]?).join with
  | some a, some c => [((i, j), a - c)]
  | _, _ => []
def ledO {b : Nat} (ra rb : List (Option (U b))) (n : Nat) : List (Pr × U b) := (List.range n).flatMap fun i => ledI (ra[i]?).join i rb rb.length
theorem ledI_succ {b : Nat} (a : Option (U b)) (i : Nat) (rb : List (Option (U b))) (n : Nat) : ledI a i rb (n + 1) = ledI a i rb n ++ (match a, (rb[n]?).join with
  | some a, some c => [((i, n), a - c)]
  | _, _ => []) := by
  simp only [ledI, List.range_succ, List.flatMap_append, List.flatMap_cons, List.flatMap_nil, List.append_nil]
  congr 1
  cases a <;> cases (rb[n]?).join <;> rfl
theorem ledO_succ {b : Nat} (ra rb : List (Option (U b))) (n : Nat) : ledO ra rb (n + 1) = ledO ra rb n ++ ledI (ra[n]?).join n rb rb.length := by simp [ledO, List.range_succ, List.flatMap_append]
theorem mem_ledI {b : Nat} {a : Option (U b)} {i : Nat} {rb : List (Option (U b))} {n : Nat} {y : Pr} {d : U b} : (y, d) ∈ ledI a i rb n ↔ ∃ j c a', j < n ∧ a = some a' ∧ (rb[j]?).join = some c ∧ y = (i, j) ∧ d = a' - c := by
  simp only [ledI, List.mem_flatMap, List.mem_range]
  constructor
  · rintro ⟨j, hj, h⟩
    cases a with
    | none => simp at h
    | some a =>
      cases e : (rb[j]?).join with
      | none => rw [e] at h; simp at h
      | some c => rw [e] at h; simp at h; exact ⟨j, c, a, hj, rfl, e, h.1, h.2⟩
  · rintro ⟨j, c, a', hj, rfl, e, rfl, rfl⟩
    exact ⟨j, hj, by rw [e]; simp⟩
theorem ledI_len {b : Nat} {a : Option (U b)} {i : Nat} {rb : List (Option (U b))} : ∀ n, (ledI a i rb n).length ≤ n
  | 0 => by simp [ledI]
  | n + 1 => by
    rw [ledI_succ, List.length_append]
    have := ledI_len (a := a) (i := i) (rb := rb) n
    split <;> simp <;> omega
theorem ledO_len {b : Nat} {ra rb : List (Option (U b))} : ∀ n, (ledO ra rb n).length ≤ n * rb.length
  | 0 => by simp [ledO]
  | n + 1 => by
    rw [ledO_succ, List.length_append, Nat.add_mul, Nat.one_mul]
    have := ledO_len (ra := ra) (rb := rb) n
    have := ledI_len (a := (ra[n]?).join) (i := n) (rb := rb) rb.length
    omega
def ledL {b : Nat} (R : GR b) (x : Pr) : List (Pr × U b) := ledO (R[x.1]?.getD []) (R[x.2]?.getD []) (R[x.1]?.getD []).length
theorem mem_ledL {b : Nat} {R : GR b} {x y : Pr} {d : U b} : (y, d) ∈ ledL R x ↔ Led R x y d := by
  obtain ⟨p, q⟩ := x
  simp only [ledL, ledO, List.mem_flatMap, List.mem_range, mem_ledI]
  constructor
  · rintro ⟨i, hi, j, c, a, hj, ha, hc, rfl, rfl⟩
    exact .mk ha hc
  · intro h
    cases h with
    | mk ha hc =>
      rename_i p' q' a c
      unfold tie at ha hc
      refine ⟨p', ?_, q', c, a, ?_, ha, hc, rfl, rfl⟩
      · apply Classical.byContradiction
        intro z
        rw [List.getElem?_eq_none (by omega)] at ha
        cases ha
      · apply Classical.byContradiction
        intro z
        rw [List.getElem?_eq_none (by omega)] at hc
        cases hc
theorem ledL_len {b m : Nat} {R : GR b} (s : Sq R m) (x : Pr) : (ledL R x).length ≤ m * m := by
  have key : ∀ p : Nat, (R[p]?.getD []).length ≤ m := fun p => by
    cases e : R[p]? with
    | none => simp
    | some r => simp [s.row r (List.mem_of_getElem? e)]
  exact Nat.le_trans (ledO_len _) (Nat.mul_le_mul (key _) (key _))
theorem Led.bt {b n : Nat} {R : GR b} (h : Tb R n) {x y : Pr} {d : U b} (l : Led R x y d) : Bt (2 * n) d := by
  cases l with
  | mk h1 h2 => exact ((h _ _ _ h1).sub (h _ _ _ h2)).mono (by omega)
def pkD (x : Pr) : D := .tup [.int x.1, .int x.2]
def ldD {b : Nat} (x : Pr × U b) : D := .tup [pkD x.1, uD x.2]
def ldO {b : Nat} (L : List (Pr × U b)) : O := .l (L.map fun x => .s (ldD x))
def S_led_pairs : Spec := fun zs rs P _ => ∃ (b m : Nat) (R : GR b) (z : D) (x : Pr), zs = [z, pkD x] ∧ rs = [] ∧ Rws R z ∧ Sq R m ∧ m ≤ 10 ∧ Tb R 72 ∧ b ≤ 1000 ∧ x.1 < m ∧ x.2 < m ∧ P (ldO (ledL R x)) []
theorem f_led_pairs {g : Pg} (hd : Dx g "led_pairs" st_led_pairs) (f1 : Fn g "unit_minus" 4 S_unit_minus) (m1 : g.mg "enumerate" = none) : Fn g "led_pairs" 5 S_led_pairs := by
  refine fm_led_pairs hd (fun zs rs P P2 h => by obtain ⟨b, m, R, z, x, rfl, _⟩ := h; rfl) fun zs rs P P2 h => ?_
  obtain ⟨b, m, R, z, ⟨p, q⟩, rfl, rfl, hz, hs, hm, ht, hb, hp, hq, hP⟩ := h
  simp only at hp hq
  obtain ⟨ra, era⟩ : ∃ r, R[p]? = some r := ⟨_, List.getElem?_eq_getElem (by rw [hs.len]; exact hp)⟩
  obtain ⟨rb, erb⟩ : ∃ r, R[q]? = some r := ⟨_, List.getElem?_eq_getElem (by rw [hs.len]; exact hq)⟩
  have la : ra.length = m := hs.row ra (List.mem_of_getElem? era)
  have lb : rb.length = m := hs.row rb (List.mem_of_getElem? erb)
  have eL : ledL R (p, q) = ledO ra rb ra.length := by simp [ledL, era, erb]
  rw [eL] at hP
  clear eL
  have hta : ∀ i a, ra[i]? = some (some a) → Bt 72 a := fun i a e => ht p i a (by simp [tie, era, e])
  have htb : ∀ i a, rb[i]? = some (some a) → Bt 72 a := fun i a e => ht q i a (by simp [tie, erb, e])
  cases hz
  · simp only [grU, pkD]
    walk_at "y0"
    walk_at "ys"
    intro w
    walk_at "ys"
    refine s_for ?_ (by intro _ _; rfl)
    refine it_enum m1 (by walk_at "yk") ?_ (by intro _; rfl)
    walk_at "ys"
    refine ⟨_, _, rfl, ixD_nat (k := p) (z := rwU ra) (by rw [List.getElem?_map, era]; rfl), ?_⟩
    simp only [rwU]
    refine ⟨_, rfl, fun k env2 => ∃ x1 x2 x3 x4, env2 = ⟨[some (.tup (R.map rwU)), some (.tup [.int p, .int q]), some (.raw w), x1, x2, x3, x4], [(w, ldO (ledO ra rb k))]⟩, ⟨_, _, _, _, rfl⟩, fun _ _ _ _ => trivial, ?_, ?_⟩
    · intro k z env2 hz ⟨x1, x2, x3, x4, e⟩
      subst e
      obtain ⟨x, hx, rfl⟩ := enumD_get hz
      obtain ⟨a, ha, rfl⟩ := map_get hx
      walk_at "ys"
      refine s_for ?_ (by intro _ _; rfl)
      refine it_enum m1 (by walk_at "yk") ?_ (by intro _; rfl)
      walk_at "ys"
      refine ⟨_, _, rfl, ixD_nat (k := q) (z := rwU rb) (by rw [List.getElem?_map, erb]; rfl), ?_⟩
      simp only [rwU]
      refine ⟨_, rfl, fun j env2 => ∃ x3 x4, env2 = ⟨[some (.tup (R.map rwU)), some (.tup [.int p, .int q]), some (.raw w), some (.int k), some (clU a), x3, x4], [(w, ldO (ledO ra rb k ++ ledI a k rb j))]⟩, ⟨x3, x4, by simp [ledI]⟩, fun _ _ _ _ => trivial, ?_, ?_⟩
      · intro j z env2 hz ⟨x3, x4, e⟩
        subst e
        obtain ⟨x, hx, rfl⟩ := enumD_get hz
        obtain ⟨c, hc, rfl⟩ := map_get hx
        walk_at "ys"
        have eI := ledI_succ a k rb j
        rw [hc] at eI
        simp only [Option.join_some] at eI
        cases a with
        | none =>
          walk_at "ys"
          have eI2 : ledI (none : Option (U b)) k rb (j + 1) = ledI none k rb j := by rw [eI]; simp
          dsimp only
          rw [eI2]
          exact ⟨_, _, rfl⟩
        | some a =>
          walk_at "ys"
          cases c with
          | none =>
            walk_at "ys"
            have eI2 : ledI (some a) k rb (j + 1) = ledI (some a) k rb j := by rw [eI]; simp
            dsimp only
            rw [eI2]
            exact ⟨_, _, rfl⟩
          | some c =>
            walk_at "ys"
            walk_at "ys"
            refine ⟨_, _, _, rfl, .hd, ?_⟩
            refine E.toO ?_
            walk_at "ys"
            walk_at "yn"
            refine ⟨a.1, c.1, rfl, rfl, by rw [a.2, c.2], by rw [a.2]; exact hb, (hta k a ha).uz (by decide), (htb j c hc).uz (by decide), ?_⟩
            walk_at "yd"
            walk_at "ys"
            refine ⟨_, _, .hd, ?_, ?_⟩
            · have h1 := ledO_len (ra := ra) (rb := rb) k
              have h2 := ledI_len (a := some a) (i := k) (rb := rb) j
              have h3 := (List.getElem?_eq_some_iff.mp ha).1
              have h4 := (List.getElem?_eq_some_iff.mp hc).1
              have h5 : k * rb.length ≤ 10 * 10 := Nat.mul_le_mul (by omega) (by omega)
              simp only [List.length_map, List.length_append]
              omega
            · walk_at "ys"
              dsimp only
              rw [eI]
              simp only [ldO, List.map_append, List.append_assoc]
              exact ⟨_, _, rfl⟩
      · intro env2 ⟨x3, x4, e⟩
        subst e
        walk_at "ys"
        dsimp only
        rw [ledO_succ, ha]
        simp only [Option.join_some, enumD_length, List.length_map]
        exact ⟨_, _, _, _, rfl⟩
    · intro env2 ⟨x1, x2, x3, x4, e⟩
      subst e
      refine r_cons ?_
      refine s_retO (eo_mv ?_)
      walk_at "ys"
      refine ⟨_, _, _, rfl, .hd, fin_nil ?_⟩
      rw [enumD_length, List.length_map]
      exact hP
  · simp only [lsU, pkD]
    walk_at "y0"
    walk_at "ys"
    intro w
    walk_at "ys"
    refine s_for ?_ (by intro _ _; rfl)
    refine it_enumL m1 (by walk_at "yk") ?_ (by intro _; rfl)
    walk_at "ys"
    refine ⟨_, _, rfl, ixD_nat (k := p) (z := rlU ra) (by rw [List.getElem?_map, era]; rfl), ?_⟩
    simp only [rlU]
    refine ⟨_, rfl, fun k env2 => ∃ x1 x2 x3 x4, env2 = ⟨[some (.lst (R.map rlU)), some (.tup [.int p, .int q]), some (.raw w), x1, x2, x3, x4], [(w, ldO (ledO ra rb k))]⟩, ⟨_, _, _, _, rfl⟩, fun _ _ _ _ => trivial, ?_, ?_⟩
    · intro k z env2 hz ⟨x1, x2, x3, x4, e⟩
      subst e
      obtain ⟨x, hx, rfl⟩ := enumD_get hz
      obtain ⟨a, ha, rfl⟩ := map_get hx
      walk_at "ys"
      refine s_for ?_ (by intro _ _; rfl)
      refine it_enumL m1 (by walk_at "yk") ?_ (by intro _; rfl)
      walk_at "ys"
      refine ⟨_, _, rfl, ixD_nat (k := q) (z := rlU rb) (by rw [List.getElem?_map, erb]; rfl), ?_⟩
      simp only [rlU]
      refine ⟨_, rfl, fun j env2 => ∃ x3 x4, env2 = ⟨[some (.lst (R.map rlU)), some (.tup [.int p, .int q]), some (.raw w), some (.int k), some (clU a), x3, x4], [(w, ldO (ledO ra rb k ++ ledI a k rb j))]⟩, ⟨x3, x4, by simp [ledI]⟩, fun _ _ _ _ => trivial, ?_, ?_⟩
      · intro j z env2 hz ⟨x3, x4, e⟩
        subst e
        obtain ⟨x, hx, rfl⟩ := enumD_get hz
        obtain ⟨c, hc, rfl⟩ := map_get hx
        walk_at "ys"
        have eI := ledI_succ a k rb j
        rw [hc] at eI
        simp only [Option.join_some] at eI
        cases a with
        | none =>
          walk_at "ys"
          have eI2 : ledI (none : Option (U b)) k rb (j + 1) = ledI none k rb j := by rw [eI]; simp
          dsimp only
          rw [eI2]
          exact ⟨_, _, rfl⟩
        | some a =>
          walk_at "ys"
          cases c with
          | none =>
            walk_at "ys"
            have eI2 : ledI (some a) k rb (j + 1) = ledI (some a) k rb j := by rw [eI]; simp
            dsimp only
            rw [eI2]
            exact ⟨_, _, rfl⟩
          | some c =>
            walk_at "ys"
            walk_at "ys"
            refine ⟨_, _, _, rfl, .hd, ?_⟩
            refine E.toO ?_
            walk_at "ys"
            walk_at "yn"
            refine ⟨a.1, c.1, rfl, rfl, by rw [a.2, c.2], by rw [a.2]; exact hb, (hta k a ha).uz (by decide), (htb j c hc).uz (by decide), ?_⟩
            walk_at "yd"
            walk_at "ys"
            refine ⟨_, _, .hd, ?_, ?_⟩
            · have h1 := ledO_len (ra := ra) (rb := rb) k
              have h2 := ledI_len (a := some a) (i := k) (rb := rb) j
              have h3 := (List.getElem?_eq_some_iff.mp ha).1
              have h4 := (List.getElem?_eq_some_iff.mp hc).1
              have h5 : k * rb.length ≤ 10 * 10 := Nat.mul_le_mul (by omega) (by omega)
              simp only [List.length_map, List.length_append]
              omega
            · walk_at "ys"
              dsimp only
              rw [eI]
              simp only [ldO, List.map_append, List.append_assoc]
              exact ⟨_, _, rfl⟩
      · intro env2 ⟨x3, x4, e⟩
        subst e
        walk_at "ys"
        dsimp only
        rw [ledO_succ, ha]
        simp only [Option.join_some, enumD_length, List.length_map]
        exact ⟨_, _, _, _, rfl⟩
    · intro env2 ⟨x1, x2, x3, x4, e⟩
      subst e
      refine r_cons ?_
      refine s_retO (eo_mv ?_)
      walk_at "ys"
      refine ⟨_, _, _, rfl, .hd, fin_nil ?_⟩
      rw [enumD_length, List.length_map]
      exact hP

set_option maxHeartbeats 1000000
/-! keys -/
def pk (x : Pr) : List Key := [.inl x.1, .inl x.2]
theorem pk_inj {x y : Pr} (h : pk x = pk y) : x = y := by
  obtain ⟨a, b⟩ := x
  obtain ⟨c, d⟩ := y
  simp only [pk, List.cons.injEq, Sum.inl.injEq, and_true] at h
  have h1 : a = c := by have := h.1; omega
  have h2 : b = d := by have := h.2; omega
  rw [h1, h2]
theorem pk_key (x : Pr) : (pkD x).key = some (pk x) := rfl
theorem pk_mem {x : Pr} {ks : List Pr} : pk x ∈ ks.map pk ↔ x ∈ ks := by
  constructor
  · intro h
    obtain ⟨y, hy, e⟩ := List.mem_map.mp h
    rw [← pk_inj e]; exact hy
  · exact fun h => List.mem_map_of_mem h
theorem hasK_pk {x : Pr} {ks : List Pr} : hasK (ks.map pk) (pk x) = decide (x ∈ ks) := by
  by_cases h : x ∈ ks
  · rw [decide_eq_true h]; exact hasK_iff.mpr (pk_mem.mpr h)
  · rw [decide_eq_false h]; exact hasK_not.mpr fun z => h (pk_mem.mp z)
theorem nodup_map {α β : Type} {f : α → β} (hf : ∀ x y, f x = f y → x = y) : ∀ {l : List α}, l.Nodup → (l.map f).Nodup
  | [], _ => .nil
  | x :: l, h => by
    rw [List.nodup_cons] at h
    rw [List.map_cons, List.nodup_cons]
    exact ⟨fun z => by obtain ⟨y, hy, e⟩ := List.mem_map.mp z; rw [hf _ _ e] at hy; exact h.1 hy, nodup_map hf h.2⟩
theorem pk_nodup {ks : List Pr} (h : ks.Nodup) : (ks.map pk).Nodup := nodup_map (fun _ _ => pk_inj) h
theorem dIx_at {ks : List (List Key)} {i : Nat} {k : List Key} (hn : ks.Nodup) (h : ks[i]? = some k) : dIx ks k = some i := by
  obtain ⟨j, hj⟩ := dIx_some (List.mem_of_getElem? h)
  rw [hj, nodup_ix hn (dIx_get hj) h]
theorem dGet_pk {α : Type} {ks : List Pr} {xs : List α} {i : Nat} {k : Pr} {x : α} (hn : ks.Nodup) (h : ks[i]? = some k) (g : xs[i]? = some x) : dGet (ks.map pk) xs (pk k) = some x := by
  unfold dGet
  rw [dIx_at (pk_nodup hn) (by rw [List.getElem?_map, h]; rfl)]
  exact g
theorem keysD_pk (ks : List Pr) : keysD (ks.map pk) = ks.map pkD := by
  unfold keysD
  rw [List.map_map]
  rfl
theorem nodup_le {n : Nat} : ∀ {l : List Nat}, l.Nodup → (∀ x ∈ l, x < n) → l.length ≤ n := by
  induction n with
  | zero =>
    intro l _ h
    cases l with
    | nil => simp
    | cons a l => exact absurd (h a (by simp)) (by omega)
  | succ n ih =>
    intro l hn h
    have h1 := ih (l := l.filter (· ≠ n)) (hn.filter _) (fun x hx => by
      rw [List.mem_filter] at hx
      have := h x hx.1
      have h2 : x ≠ n := by simpa using hx.2
      omega)
    have h2 : l.length ≤ (l.filter (· ≠ n)).length + 1 := by
      clear ih h h1
      induction l with
      | nil => simp
      | cons a l ih =>
        rw [List.nodup_cons] at hn
        by_cases e : a = n
        · subst e
          have h3 : l.filter (· ≠ a) = l := List.filter_eq_self.mpr fun x hx => by
            have : x ≠ a := fun z => hn.1 (z ▸ hx)
            simpa using this
          rw [List.filter_cons_of_neg (by simp), h3, List.length_cons]
          exact Nat.le_refl _
        · rw [List.filter_cons_of_pos (by simpa using e), List.length_cons, List.length_cons]
          have := ih hn.2
          omega
    omega
theorem pairs_le {m : Nat} {ks : List Pr} (hn : ks.Nodup) (h : ∀ x ∈ ks, x.1 < m ∧ x.2 < m) : ks.length ≤ m * m := by
  have inj : (ks.map fun x => x.1 * m + x.2).Nodup := by
    induction ks with
    | nil => exact .nil
    | cons x ks ih =>
      rw [List.nodup_cons] at hn
      rw [List.map_cons, List.nodup_cons]
      refine ⟨fun z => ?_, ih hn.2 fun y hy => h y (List.mem_cons_of_mem _ hy)⟩
      obtain ⟨y, hy, e⟩ := List.mem_map.mp z
      have h1 := h x (by simp)
      have h2 := h y (List.mem_cons_of_mem _ hy)
      have e1 : y.2 = x.2 := by
        have := congrArg (· % m) e
        simp only [Nat.mul_comm _ m, Nat.mul_add_mod_self_left] at this
        rwa [Nat.mod_eq_of_lt h2.2, Nat.mod_eq_of_lt h1.2] at this
      have e2 : y.1 = x.1 := by
        rw [e1] at e
        have : y.1 * m = x.1 * m := by omega
        exact Nat.eq_of_mul_eq_mul_right (by omega) this
      apply hn.1
      have : y = x := Prod.ext e2 e1
      rw [← this]; exact hy
  have := nodup_le inj (n := m * m) (fun x hx => by
    obtain ⟨y, hy, rfl⟩ := List.mem_map.mp hx
    have ⟨h1, h2⟩ := h y hy
    have : (y.1 + 1) * m ≤ m * m := Nat.mul_le_mul_right _ h1
    rw [Nat.add_mul] at this
    omega)
  simpa using this
/-! differences ahead -/
structure Run {b : Nat} (R : GR b) (m : Nat) (C : Pr → Prop) (ks : List Pr) (vs : List (U b)) (wt : List Pr) : Prop where
  len : ks.length = vs.length
  nodup : ks.Nodup
  sound : ∀ (i : Nat) (k : Pr) (v : U b), ks[i]? = some k → vs[i]? = some v → Ahd R m k v
  diag : ∀ p, p < m → ∃ i : Nat, ks[i]? = some (p, p) ∧ vs[i]? = some 0
  bd : ∀ v ∈ vs, Bt (144 * ks.length) v
  wk : ∀ x ∈ wt, x ∈ ks
  cl : ∀ k ∈ ks, k ∉ wt → C k → ∀ k' d, Led R k k' d → k' ∈ ks
theorem Run.le {b m : Nat} {R : GR b} {C : Pr → Prop} {ks : List Pr} {vs : List (U b)} {wt : List Pr} (s : Sq R m) (r : Run R m C ks vs wt) : ks.length ≤ m * m := by
  refine pairs_le r.nodup fun x hx => ?_
  obtain ⟨i, v, h1, h2⟩ := dv_mem r.len hx
  exact (r.sound i x v h1 h2).lt s
theorem Run.pop {b m : Nat} {R : GR b} {ks : List Pr} {vs : List (U b)} {wt : List Pr} {p : Pr} (r : Run R m (fun _ => True) ks vs (wt ++ [p])) : Run R m (fun k => k ≠ p) ks vs wt :=
  ⟨r.len, r.nodup, r.sound, r.diag, r.bd, fun x hx => r.wk x (by simp [hx]), fun k hk hw hc => r.cl k hk (by simp [hw, hc]) trivial⟩
theorem Run.done {b m : Nat} {R : GR b} {ks : List Pr} {vs : List (U b)} {wt : List Pr} {p : Pr} (r : Run R m (fun k => k ≠ p) ks vs wt) (h : ∀ k' d, Led R p k' d → k' ∈ ks) : Run R m (fun _ => True) ks vs wt :=
  ⟨r.len, r.nodup, r.sound, r.diag, r.bd, r.wk, fun k hk hw _ k' d l => by
    by_cases e : k = p
    · subst e; exact h k' d l
    · exact r.cl k hk hw e k' d l⟩
theorem Run.more {b m : Nat} {R : GR b} {ks : List Pr} {vs : List (U b)} {wt : List Pr} {p y : Pr} {d v : U b} {i : Nat} (r : Run R m (fun k => k ≠ p) ks vs wt) (ht : Tb R 72) (hy : y ∉ ks) (l : Led R p y d) (h1 : ks[i]? = some p) (h2 : vs[i]? = some v) : Run R m (fun k => k ≠ p) (ks ++ [y]) (vs ++ [v + d]) (wt ++ [y]) := by
  refine ⟨by simp [r.len], List.nodup_append.mpr ⟨r.nodup, by simp, fun a ha c hc => by rw [List.mem_singleton.mp hc]; exact fun z => hy (z ▸ ha)⟩, ?_, fun p hp => ?_, ?_, ?_, ?_⟩
  · intro j k w hk hw
    rw [List.getElem?_append] at hk hw
    rw [← r.len] at hw
    by_cases q : j < ks.length
    · rw [if_pos q] at hk hw
      exact r.sound j k w hk hw
    · rw [if_neg q] at hk hw
      cases e : j - ks.length with
      | zero =>
        rw [e] at hk hw
        simp at hk hw
        subst hk hw
        exact (r.sound i p v h1 h2).step l
      | succ n => rw [e] at hk; simp at hk
  · obtain ⟨j, e1, e2⟩ := r.diag p hp
    exact ⟨j, by rw [List.getElem?_append_left (List.getElem?_eq_some_iff.mp e1).1]; exact e1, by rw [List.getElem?_append_left (List.getElem?_eq_some_iff.mp e2).1]; exact e2⟩
  · intro w hw
    rw [List.length_append, List.length_singleton]
    rcases List.mem_append.mp hw with hw | hw
    · exact (r.bd w hw).mono (by omega)
    · rw [List.mem_singleton.mp hw]
      exact ((r.bd v (List.mem_of_getElem? h2)).add (l.bt ht)).mono (by omega)
  · intro x hx
    rcases List.mem_append.mp hx with hx | hx
    · exact List.mem_append_left _ (r.wk x hx)
    · exact List.mem_append_right _ hx
  · intro k hk hw hc k' d' l'
    rcases List.mem_append.mp hk with hk | hk
    · exact List.mem_append_left _ (r.cl k hk (fun z => hw (List.mem_append_left _ z)) hc k' d' l')
    · exact absurd (List.mem_append_right _ hk) hw
def vO {b : Nat} (v : U b) : O := .s (uD v)
def ddO {b : Nat} (ks : List Pr) (vs : List (U b)) : O := .d (ks.map pk) (vs.map vO)
theorem fz_ldO {b : Nat} (L : List (Pr × U b)) : (ldO L).fz = .lst (L.map ldD) := by
  have : (L.map fun x => O.s (ldD x)) = (L.map ldD).map O.s := by rw [List.map_map]; rfl
  simp only [ldO, O.fz, this, fzs_map]
theorem fzs_vO {b : Nat} (vs : List (U b)) : O.fzs (vs.map vO) = vs.map fun v => uD v := by
  have : vs.map vO = (vs.map fun v => uD v).map O.s := by rw [List.map_map]; rfl
  rw [this, fzs_map]
theorem Run.start {b m : Nat} {R : GR b} (s : Sq R m) : Run R m (fun _ => True) ((List.range m).map fun p => (p, p)) ((List.range m).map fun _ => (0 : U b)) ((List.range m).map fun p => (p, p)) := by
  refine ⟨by simp, nodup_map (fun x y e => by simpa using e) List.nodup_range, ?_, fun p hp => ⟨p, by simp [List.getElem?_range hp], by simp [List.getElem?_range hp]⟩, ?_, fun x hx => hx, fun k hk hw => absurd hk hw⟩
  · intro i k v hk hv
    obtain ⟨j, h1, rfl⟩ := map_get hk
    obtain ⟨_, h2, rfl⟩ := map_get hv
    obtain ⟨h3, h4⟩ := List.getElem?_eq_some_iff.mp h1
    simp at h3 h4
    subst h4
    exact .base h3
  · intro v hv
    obtain ⟨_, _, rfl⟩ := List.mem_map.mp hv
    exact Bt.zero.mono (by omega)
def S_differences_ahead : Spec := fun zs rs P _ => ∃ (b m : Nat) (R : GR b) (z : D), zs = [z, .int b] ∧ rs = [] ∧ Rws R z ∧ Sq R m ∧ m ≤ 10 ∧ Tb R 72 ∧ b ≤ 1000 ∧ ∀ ks vs, Clo R m ks vs → (∀ v ∈ vs, Bt 14400 v) → P (ddO ks vs) []

set_option maxHeartbeats 2000000
theorem snoc_of {α : Type} : ∀ {l : List α}, l ≠ [] → ∃ l' x, l = l' ++ [x]
  | [], h => absurd rfl h
  | [a], _ => ⟨[], a, rfl⟩
  | a :: c :: l, _ => by
    obtain ⟨l', x, e⟩ := snoc_of (l := c :: l) (by simp)
    exact ⟨a :: l', x, by rw [e]; rfl⟩
theorem f_differences_ahead {g : Pg} (hd : Dx g "differences_ahead" st_differences_ahead) (f1 : Fn g "unitless" 1 S_unitless) (f2 : Fn g "led_pairs" 5 S_led_pairs) (f3 : Fn g "unit_plus" 4 S_unit_plus) (m1 : g.mg "range" = none) (m2 : g.mg "len" = none) (m3 : g.mg "list" = none) : Fn g "differences_ahead" 6 S_differences_ahead := by
  refine fm_differences_ahead hd (fun zs rs P P2 h => by obtain ⟨b, m, R, z, rfl, _⟩ := h; rfl) fun zs rs P P2 h => ?_
  obtain ⟨b, m, R, z, rfl, rfl, hz, hs, hm, ht, hb, hP⟩ := h
  have hz2 := hz
  have hmm : m * m ≤ 10 * 10 := Nat.mul_le_mul hm hm
  cases hz
  · simp only [grU]
    simp only [grU] at hz2
    walk_at "y0"
    refine s_newDcT [("place", 7)] (by kernel_rfl) ?_ (by walk_at "yk") (by walk_at "yi") (by intro _ _; rfl) (by rfl) (by rfl)
    refine it_rng m1 (by walk_at "yk") ?_ (by intro _; rfl)
    walk_at "ys"
    refine ⟨_, rfl, by simp [hs.len]; omega, ?_⟩
    rw [List.length_map, hs.len]
    refine ⟨(List.range m).map fun p => some (pk (p, p), uD (0 : U b)), by simp, by simp; omega, fun _ _ _ _ => trivial, fun k z y hz hy => ?_, ?_, ?_⟩
    · obtain ⟨hk, rfl⟩ := rng_get hz
      obtain ⟨p, hp, rfl⟩ := map_get hy
      obtain rfl : p = k := by
        obtain ⟨h3, h4⟩ := List.getElem?_eq_some_iff.mp hp
        simp at h4; exact h4.symm
      dsimp only
      refine ⟨_, by walk_at "ybd", by simp, ts_nil ⟨rfl, rfl, fun y' e => ?_⟩⟩
      cases e
      walk_at "yw"
      walk_at "ys"
      refine ⟨rfl, ?_⟩
      walk_at "ys"
      walk_at "yn"
      refine ⟨b, rfl, rfl, hb, ?_⟩
      exact ⟨rfl, rfl⟩
    · have e : (((List.range m).map fun p => some (pk (p, p), uD (0 : U b))).filterMap id).map (·.1) = ((List.range m).map fun p => (p, p)).map pk := by
        rw [List.filterMap_map, List.map_filterMap, List.map_map, ← List.filterMap_eq_map]; rfl
      rw [e]
      exact pk_nodup (nodup_map (fun x y e => by simpa using e) List.nodup_range)
    have e1 : (((List.range m).map fun p => some (pk (p, p), uD (0 : U b))).filterMap id).map (·.1) = ((List.range m).map fun p => (p, p)).map pk := by
      rw [List.filterMap_map, List.map_filterMap, List.map_map, ← List.filterMap_eq_map]; rfl
    have e2 : ((((List.range m).map fun p => some (pk (p, p), uD (0 : U b))).filterMap id).map (·.2)).map O.s = ((List.range m).map fun _ => (0 : U b)).map vO := by
      rw [List.filterMap_map, List.map_filterMap, List.map_filterMap, List.map_map, ← List.filterMap_eq_map]; rfl
    dsimp only
    rw [e1, e2]
    intro w1
    walk_at "yx"
    walk_at "yz"
    refine r_cons ?_
    walk_at "ynew"
    walk_at "ybS"
    walk_at "ys"
    refine ⟨_, .cons (seen_d .hd) .nil, cbS_list_dic ?_⟩
    rw [keysD_pk]
    intro w2
    walk_at "yx"
    walk_at "yz"
    refine r_cons ?_
    refine s_while (fun n env => ∃ (ks : List Pr) (vs : List (U b)) (wt : List Pr) (x1 x2 x3 x4 : Option D), env = ⟨[some (.tup (R.map rwU)), some (.int b), some (.raw w1), some (.raw w2), x1, x2, x3, x4], [(w2, .l ((wt.map pkD).map O.s)), (w1, ddO ks vs)]⟩ ∧ Run R m (fun _ => True) ks vs wt ∧ n = wt.length + 2 * (m * m - ks.length) ∧ n ≤ 300) ?_ fun n env hI => ?_
    · exact ⟨_, _, _, _, _, _, _, _, rfl, Run.start hs, rfl, by simp; omega⟩
    obtain ⟨ks0, vs0, wt, x1, x2, x3, x4, rfl, hr, rfl, h300⟩ := hI
    walk_at "ys"
    refine ⟨fun h => ?_, fun h => ?_⟩
    · have hw : wt ≠ [] := by
        intro z; subst z; simp at h
      obtain ⟨wt, p, rfl⟩ : ∃ wt' p, wt = wt' ++ [p] := snoc_of hw
      have hp := hr.wk p (by simp)
      obtain ⟨i, v, hi, hv⟩ := dv_mem hr.len hp
      have hpl := (hr.sound i p v hi hv).lt hs
      walk_at "ys"
      walk_at "ys"
      rw [List.map_append, List.map_append]
      refine ⟨_, _, _, _, rfl, .hd, ?_⟩
      walk_at "ys"
      refine s_for ?_ (by intro _ _; rfl)
      refine it_lst ?_
      walk_at "ys"
      walk_at "yn"
      refine ⟨b, m, R, _, p, rfl, rfl, hz2, hs, hm, ht, hb, hpl.1, hpl.2, ?_⟩
      walk_at "yz"
      rw [fz_ldO]
      walk_at "yd"
      refine ⟨_, rfl, fun j env2 => ∃ (ks : List Pr) (vs : List (U b)) (wt2 : List Pr) (i : Nat) (v : U b) (x2 x3 x4 : Option D), env2 = ⟨[some (.tup (R.map rwU)), some (.int b), some (.raw w1), some (.raw w2), some (pkD p), x2, x3, x4], [(w2, .l ((wt2.map pkD).map O.s)), (w1, ddO ks vs)]⟩ ∧ Run R m (fun k => k ≠ p) ks vs wt2 ∧ ks[i]? = some p ∧ vs[i]? = some v ∧ (∀ i2 y d, i2 < j → (ledL R p)[i2]? = some (y, d) → y ∈ ks) ∧ wt2.length + 2 * (m * m - ks.length) ≤ wt.length + 2 * (m * m - ks0.length), ?_, fun _ _ _ _ => trivial, ?_, ?_⟩
      · exact ⟨ks0, vs0, wt, i, v, _, _, _, rfl, hr.pop, hi, hv, fun _ _ _ h => absurd h (by omega), Nat.le_refl _⟩
      · intro j z env2 hz ⟨ks, vs, wt2, i, v, x2, x3, x4, e, hr, hi, hv, hj, hn⟩
        subst e
        obtain ⟨⟨y, d⟩, hyd, rfl⟩ := map_get hz
        have hl : Led R p y d := mem_ledL.mp (List.mem_of_getElem? hyd)
        have hj2 : ∀ ks' : List Pr, (∀ x, x ∈ ks → x ∈ ks') → y ∈ ks' → ∀ i2 y' d', i2 < j + 1 → (ledL R p)[i2]? = some (y', d') → y' ∈ ks' := fun ks' h1 h2 i2 y' d' h3 h4 => by
          by_cases q : i2 < j
          · exact h1 _ (hj i2 y' d' q h4)
          · obtain rfl : i2 = j := by omega
            rw [hyd] at h4; cases h4; exact h2
        have hle := hr.le hs
        simp only [ldD]
        walk_at "ys"
        refine ⟨_, _, _, seen_d (.tl .hd), pk_key y, ?_⟩
        rw [hasK_pk]
        by_cases hy : y ∈ ks
        · rw [decide_eq_true hy]
          walk_at "ys"
          exact ⟨ks, vs, wt2, i, v, _, _, _, rfl, hr, hi, hv, hj2 ks (fun _ h => h) hy, hn⟩
        · rw [decide_eq_false hy]
          walk_at "ys"
          have hr2 := hr.more ht hy hl hi hv
          have hle2 := hr2.le hs
          rw [List.length_append, List.length_singleton] at hle2
          have bv : Bt 14400 v := (hr.bd v (List.mem_of_getElem? hv)).mono (by omega)
          have bd : Bt 144 d := hl.bt ht
          refine s_dput ?_ (by intro _; rfl)
          refine E.toO ?_
          walk_at "yc"
          walk_at "yarg"
          refine e_dget ?_ (by intro _ _; rfl)
          walk_at "ys"
          refine ⟨_, _, _, uD v, seen_d (.tl .hd), pk_key p, ?_, imm_uD v, ?_⟩
          · rw [fzs_vO]
            exact dGet_pk hr.nodup hi (by rw [List.getElem?_map, hv]; rfl)
          walk_at "ys"
          walk_at "yn"
          refine ⟨v.1, d.1, rfl, rfl, by rw [v.2, d.2], by rw [v.2]; exact hb, bv.uz (by decide), bd.uz (by decide), ?_⟩
          walk_at "yd"
          intro w0
          walk_at "ys"
          refine ⟨w1, ks.map pk, vs.map vO, pk y, _, _, _, rfl, .hd, .tl .hd, pk_key y, fun z => hy (pk_mem.mp z), by rw [List.length_map]; omega, ?_⟩
          walk_at "ys"
          refine E.toO ?_
          walk_at "ys"
          refine ⟨_, _, .hd, ?_, ?_⟩
          · simp only [List.length_map]
            simp only [List.length_append, List.length_singleton] at h300
            omega
          walk_at "ys"
          refine ⟨ks ++ [y], vs ++ [v + d], wt2 ++ [y], i, v, some (pkD y), some (uD d), x4, ?_, hr2, by rw [List.getElem?_append_left (List.getElem?_eq_some_iff.mp hi).1]; exact hi, by rw [List.getElem?_append_left (List.getElem?_eq_some_iff.mp hv).1]; exact hv, hj2 _ (fun _ h => List.mem_append_left _ h) (by simp), ?_⟩
          · simp only [ddO, List.map_append, List.map_cons, List.map_nil]
            rfl
          · simp only [List.length_append, List.length_singleton]
            omega
      · intro env2 ⟨ks, vs, wt2, i, v, x2, x3, x4, e, hr, hi, hv, hj, hn⟩
        subst e
        walk_at "ys"
        refine ⟨_, ?_, ks, vs, wt2, _, _, _, _, rfl, hr.done fun k' d l => ?_, rfl, ?_⟩
        · simp only [List.length_append, List.length_singleton]; omega
        · obtain ⟨i2, h2⟩ := List.mem_iff_getElem?.mp (mem_ledL.mpr l)
          exact hj i2 k' d (by first | exact (List.getElem?_eq_some_iff.mp h2).1 | (rw [List.length_map]; exact (List.getElem?_eq_some_iff.mp h2).1)) h2
        · simp only [List.length_append, List.length_singleton] at h300; omega
    · have hw : wt = [] := by
        cases wt with
        | nil => rfl
        | cons a wt => simp at h
      subst hw
      refine r_cons ?_
      refine s_retO (eo_mv ?_)
      walk_at "ys"
      refine ⟨_, _, _, rfl, .tl .hd, fin_nil ?_⟩
      exact hP ks0 vs0 ⟨hr.len, hr.nodup, hr.sound, hr.diag, fun k k' d hk l => hr.cl k hk (by simp) trivial k' d l⟩ fun v hv => (hr.bd v hv).mono (by have := hr.le hs; omega)
  · simp only [lsU]
    simp only [lsU] at hz2
    walk_at "y0"
    refine s_newDcT [("place", 7)] (by kernel_rfl) ?_ (by walk_at "yk") (by walk_at "yi") (by intro _ _; rfl) (by rfl) (by rfl)
    refine it_rng m1 (by walk_at "yk") ?_ (by intro _; rfl)
    walk_at "ys"
    refine ⟨_, rfl, by simp [hs.len]; omega, ?_⟩
    rw [List.length_map, hs.len]
    refine ⟨(List.range m).map fun p => some (pk (p, p), uD (0 : U b)), by simp, by simp; omega, fun _ _ _ _ => trivial, fun k z y hz hy => ?_, ?_, ?_⟩
    · obtain ⟨hk, rfl⟩ := rng_get hz
      obtain ⟨p, hp, rfl⟩ := map_get hy
      obtain rfl : p = k := by
        obtain ⟨h3, h4⟩ := List.getElem?_eq_some_iff.mp hp
        simp at h4; exact h4.symm
      dsimp only
      refine ⟨_, by walk_at "ybd", by simp, ts_nil ⟨rfl, rfl, fun y' e => ?_⟩⟩
      cases e
      walk_at "yw"
      walk_at "ys"
      refine ⟨rfl, ?_⟩
      walk_at "ys"
      walk_at "yn"
      refine ⟨b, rfl, rfl, hb, ?_⟩
      exact ⟨rfl, rfl⟩
    · have e : (((List.range m).map fun p => some (pk (p, p), uD (0 : U b))).filterMap id).map (·.1) = ((List.range m).map fun p => (p, p)).map pk := by
        rw [List.filterMap_map, List.map_filterMap, List.map_map, ← List.filterMap_eq_map]; rfl
      rw [e]
      exact pk_nodup (nodup_map (fun x y e => by simpa using e) List.nodup_range)
    have e1 : (((List.range m).map fun p => some (pk (p, p), uD (0 : U b))).filterMap id).map (·.1) = ((List.range m).map fun p => (p, p)).map pk := by
      rw [List.filterMap_map, List.map_filterMap, List.map_map, ← List.filterMap_eq_map]; rfl
    have e2 : ((((List.range m).map fun p => some (pk (p, p), uD (0 : U b))).filterMap id).map (·.2)).map O.s = ((List.range m).map fun _ => (0 : U b)).map vO := by
      rw [List.filterMap_map, List.map_filterMap, List.map_filterMap, List.map_map, ← List.filterMap_eq_map]; rfl
    dsimp only
    rw [e1, e2]
    intro w1
    walk_at "yx"
    walk_at "yz"
    refine r_cons ?_
    walk_at "ynew"
    walk_at "ybS"
    walk_at "ys"
    refine ⟨_, .cons (seen_d .hd) .nil, cbS_list_dic ?_⟩
    rw [keysD_pk]
    intro w2
    walk_at "yx"
    walk_at "yz"
    refine r_cons ?_
    refine s_while (fun n env => ∃ (ks : List Pr) (vs : List (U b)) (wt : List Pr) (x1 x2 x3 x4 : Option D), env = ⟨[some (.lst (R.map rlU)), some (.int b), some (.raw w1), some (.raw w2), x1, x2, x3, x4], [(w2, .l ((wt.map pkD).map O.s)), (w1, ddO ks vs)]⟩ ∧ Run R m (fun _ => True) ks vs wt ∧ n = wt.length + 2 * (m * m - ks.length) ∧ n ≤ 300) ?_ fun n env hI => ?_
    · exact ⟨_, _, _, _, _, _, _, _, rfl, Run.start hs, rfl, by simp; omega⟩
    obtain ⟨ks0, vs0, wt, x1, x2, x3, x4, rfl, hr, rfl, h300⟩ := hI
    walk_at "ys"
    refine ⟨fun h => ?_, fun h => ?_⟩
    · have hw : wt ≠ [] := by
        intro z; subst z; simp at h
      obtain ⟨wt, p, rfl⟩ : ∃ wt' p, wt = wt' ++ [p] := snoc_of hw
      have hp := hr.wk p (by simp)
      obtain ⟨i, v, hi, hv⟩ := dv_mem hr.len hp
      have hpl := (hr.sound i p v hi hv).lt hs
      walk_at "ys"
      walk_at "ys"
      rw [List.map_append, List.map_append]
      refine ⟨_, _, _, _, rfl, .hd, ?_⟩
      walk_at "ys"
      refine s_for ?_ (by intro _ _; rfl)
      refine it_lst ?_
      walk_at "ys"
      walk_at "yn"
      refine ⟨b, m, R, _, p, rfl, rfl, hz2, hs, hm, ht, hb, hpl.1, hpl.2, ?_⟩
      walk_at "yz"
      rw [fz_ldO]
      walk_at "yd"
      refine ⟨_, rfl, fun j env2 => ∃ (ks : List Pr) (vs : List (U b)) (wt2 : List Pr) (i : Nat) (v : U b) (x2 x3 x4 : Option D), env2 = ⟨[some (.lst (R.map rlU)), some (.int b), some (.raw w1), some (.raw w2), some (pkD p), x2, x3, x4], [(w2, .l ((wt2.map pkD).map O.s)), (w1, ddO ks vs)]⟩ ∧ Run R m (fun k => k ≠ p) ks vs wt2 ∧ ks[i]? = some p ∧ vs[i]? = some v ∧ (∀ i2 y d, i2 < j → (ledL R p)[i2]? = some (y, d) → y ∈ ks) ∧ wt2.length + 2 * (m * m - ks.length) ≤ wt.length + 2 * (m * m - ks0.length), ?_, fun _ _ _ _ => trivial, ?_, ?_⟩
      · exact ⟨ks0, vs0, wt, i, v, _, _, _, rfl, hr.pop, hi, hv, fun _ _ _ h => absurd h (by omega), Nat.le_refl _⟩
      · intro j z env2 hz ⟨ks, vs, wt2, i, v, x2, x3, x4, e, hr, hi, hv, hj, hn⟩
        subst e
        obtain ⟨⟨y, d⟩, hyd, rfl⟩ := map_get hz
        have hl : Led R p y d := mem_ledL.mp (List.mem_of_getElem? hyd)
        have hj2 : ∀ ks' : List Pr, (∀ x, x ∈ ks → x ∈ ks') → y ∈ ks' → ∀ i2 y' d', i2 < j + 1 → (ledL R p)[i2]? = some (y', d') → y' ∈ ks' := fun ks' h1 h2 i2 y' d' h3 h4 => by
          by_cases q : i2 < j
          · exact h1 _ (hj i2 y' d' q h4)
          · obtain rfl : i2 = j := by omega
            rw [hyd] at h4; cases h4; exact h2
        have hle := hr.le hs
        simp only [ldD]
        walk_at "ys"
        refine ⟨_, _, _, seen_d (.tl .hd), pk_key y, ?_⟩
        rw [hasK_pk]
        by_cases hy : y ∈ ks
        · rw [decide_eq_true hy]
          walk_at "ys"
          exact ⟨ks, vs, wt2, i, v, _, _, _, rfl, hr, hi, hv, hj2 ks (fun _ h => h) hy, hn⟩
        · rw [decide_eq_false hy]
          walk_at "ys"
          have hr2 := hr.more ht hy hl hi hv
          have hle2 := hr2.le hs
          rw [List.length_append, List.length_singleton] at hle2
          have bv : Bt 14400 v := (hr.bd v (List.mem_of_getElem? hv)).mono (by omega)
          have bd : Bt 144 d := hl.bt ht
          refine s_dput ?_ (by intro _; rfl)
          refine E.toO ?_
          walk_at "yc"
          walk_at "yarg"
          refine e_dget ?_ (by intro _ _; rfl)
          walk_at "ys"
          refine ⟨_, _, _, uD v, seen_d (.tl .hd), pk_key p, ?_, imm_uD v, ?_⟩
          · rw [fzs_vO]
            exact dGet_pk hr.nodup hi (by rw [List.getElem?_map, hv]; rfl)
          walk_at "ys"
          walk_at "yn"
          refine ⟨v.1, d.1, rfl, rfl, by rw [v.2, d.2], by rw [v.2]; exact hb, bv.uz (by decide), bd.uz (by decide), ?_⟩
          walk_at "yd"
          intro w0
          walk_at "ys"
          refine ⟨w1, ks.map pk, vs.map vO, pk y, _, _, _, rfl, .hd, .tl .hd, pk_key y, fun z => hy (pk_mem.mp z), by rw [List.length_map]; omega, ?_⟩
          walk_at "ys"
          refine E.toO ?_
          walk_at "ys"
          refine ⟨_, _, .hd, ?_, ?_⟩
          · simp only [List.length_map]
            simp only [List.length_append, List.length_singleton] at h300
            omega
          walk_at "ys"
          refine ⟨ks ++ [y], vs ++ [v + d], wt2 ++ [y], i, v, some (pkD y), some (uD d), x4, ?_, hr2, by rw [List.getElem?_append_left (List.getElem?_eq_some_iff.mp hi).1]; exact hi, by rw [List.getElem?_append_left (List.getElem?_eq_some_iff.mp hv).1]; exact hv, hj2 _ (fun _ h => List.mem_append_left _ h) (by simp), ?_⟩
          · simp only [ddO, List.map_append, List.map_cons, List.map_nil]
            rfl
          · simp only [List.length_append, List.length_singleton]
            omega
      · intro env2 ⟨ks, vs, wt2, i, v, x2, x3, x4, e, hr, hi, hv, hj, hn⟩
        subst e
        walk_at "ys"
        refine ⟨_, ?_, ks, vs, wt2, _, _, _, _, rfl, hr.done fun k' d l => ?_, rfl, ?_⟩
        · simp only [List.length_append, List.length_singleton]; omega
        · obtain ⟨i2, h2⟩ := List.mem_iff_getElem?.mp (mem_ledL.mpr l)
          exact hj i2 k' d (by first | exact (List.getElem?_eq_some_iff.mp h2).1 | (rw [List.length_map]; exact (List.getElem?_eq_some_iff.mp h2).1)) h2
        · simp only [List.length_append, List.length_singleton] at h300; omega
    · have hw : wt = [] := by
        cases wt with
        | nil => rfl
        | cons a wt => simp at h
      subst hw
      refine r_cons ?_
      refine s_retO (eo_mv ?_)
      walk_at "ys"
      refine ⟨_, _, _, rfl, .tl .hd, fin_nil ?_⟩
      exact hP ks0 vs0 ⟨hr.len, hr.nodup, hr.sound, hr.diag, fun k k' d hk l => hr.cl k hk (by simp) trivial k' d l⟩ fun v hv => (hr.bd v hv).mono (by have := hr.le hs; omega)

set_option maxHeartbeats 2000000
theorem Mtg.of_turned {b m : Nat} {R : GR b} (s : Sq R m) {k : Pr} {w : U b} (h : Ahd (turned R) m k w) : Mtg R m k := by
  induction h with
  | base h => exact .base h
  | step _ l ih =>
    cases l with
    | mk h1 h2 => exact .step (.mk (by rw [tie_turned s] at h1; exact h1) (by rw [tie_turned s] at h2; exact h2)) ih
theorem Mtg.turned {b m : Nat} {R : GR b} (s : Sq R m) {k : Pr} (h : Mtg R m k) : ∃ w, Ahd (turned R) m k w := by
  induction h with
  | base h => exact ⟨_, .base h⟩
  | step l _ ih =>
    obtain ⟨w, hw⟩ := ih
    cases l with
    | mk h1 h2 => exact ⟨_, hw.step (.mk (by rw [tie_turned s]; exact h1) (by rw [tie_turned s]; exact h2))⟩
theorem Clo.mtg {b m : Nat} {R : GR b} (s : Sq R m) {ks : List Pr} {vs : List (U b)} (c : Clo (turned R) m ks vs) {k : Pr} : k ∈ ks ↔ Mtg R m k := by
  constructor
  · intro h
    obtain ⟨i, v, e1, e2⟩ := dv_mem c.len h
    exact .of_turned s (c.sound i k v e1 e2)
  · intro h
    obtain ⟨w, hw⟩ := h.turned s
    exact c.mem hw
def S_raw_differences : Spec := fun zs rs P _ => ∃ (b m : Nat) (R : GR b), zs = [grU R, .int b] ∧ rs = [] ∧ Sq R m ∧ m ≤ 10 ∧ Tb R 72 ∧ b ≤ 1000 ∧ (¬ Uniq R m → P (.s .non) []) ∧ ∀ ks vs, Uniq R m → Due R m ks vs → (∀ v ∈ vs, Bt 14400 v) → P (ddO ks vs) []
/-- the pairs of a dict that another one has -/
def cutP {b : Nat} (ks' : List Pr) (ks : List Pr) (vs : List (U b)) : List (Pr × U b) := (ks.zip vs).filter fun p => decide (p.1 ∈ ks')
theorem cutP_due {b m : Nat} {R : GR b} {ks ks' : List Pr} {vs : List (U b)} (hc : Clo R m ks vs) (h : ∀ k, k ∈ ks' ↔ Mtg R m k) : Due R m ((cutP ks' ks vs).map (·.1)) ((cutP ks' ks vs).map (·.2)) := by
  refine ⟨by simp, ?_, fun i k v h1 h2 => ?_, fun k w ha hm => ?_⟩
  · have : ((ks.zip vs).map (·.1)).Nodup := by rw [List.map_fst_zip (by rw [hc.len]; exact Nat.le_refl _)]; exact hc.nodup
    exact this.sublist (List.Sublist.map _ List.filter_sublist)
  · obtain ⟨p, h3, rfl⟩ := map_get h1
    obtain ⟨p', h4, rfl⟩ := map_get h2
    rw [h3] at h4
    cases h4
    have h5 := List.mem_filter.mp (List.mem_of_getElem? h3)
    obtain ⟨j, h6⟩ := List.mem_iff_getElem?.mp h5.1
    rw [List.getElem?_zip_eq_some] at h6
    exact ⟨hc.sound j _ _ h6.1 h6.2, (h _).mp (by simpa using h5.2)⟩
  · obtain ⟨i, v, h1, h2⟩ := dv_mem hc.len (hc.mem ha)
    refine List.mem_map.mpr ⟨(k, v), List.mem_filter.mpr ⟨List.mem_of_getElem? (i := i) ?_, by simpa using (h k).mpr hm⟩, rfl⟩
    rw [List.getElem?_zip_eq_some]
    exact ⟨h1, h2⟩
theorem cutP_fm {b : Nat} {ks' : List Pr} : ∀ l : List (Pr × U b), (l.map fun p => if p.1 ∈ ks' then some (pk p.1, uD p.2) else none).filterMap id = (l.filter fun p => decide (p.1 ∈ ks')).map fun p => (pk p.1, uD p.2)
  | [] => rfl
  | p :: l => by
    rw [List.map_cons, List.filterMap_cons, List.filter_cons, cutP_fm l]
    by_cases h : p.1 ∈ ks' <;> simp [h]
theorem fz_ddO {b : Nat} (ks : List Pr) (vs : List (U b)) : (ddO ks vs).fz = .dic (ks.map pk) (vs.map fun v => uD v) := by
  simp only [ddO, O.fz, fzs_vO]
theorem enum_at {α : Type} {l : List α} {i : Nat} {x : α} (h : l[i]? = some x) : i < l.length := (List.getElem?_eq_some_iff.mp h).1
theorem f_raw_differences {g : Pg} (hd : Dx g "raw_differences" st_raw_differences) (f1 : Fn g "differences_ahead" 6 S_differences_ahead) (f2 : Fn g "turned_rows" 1 S_turned_rows) (f3 : Fn g "led_pairs" 5 S_led_pairs) (f4 : Fn g "unit_plus" 4 S_unit_plus) : Fn g "raw_differences" 7 S_raw_differences := by
  refine fm_raw_differences hd (fun zs rs P P2 h => by obtain ⟨b, m, R, rfl, _⟩ := h; rfl) fun zs rs P P2 h => ?_
  obtain ⟨b, m, R, rfl, rfl, hs, hm, ht, hb, hP1, hP2⟩ := h
  refine r_nox ?_
  walk_at "y0"
  walk_at "ynew"
  walk_at "yco"
  walk_at "ys"
  walk_at "yn"
  refine ⟨b, m, R, _, rfl, rfl, .t, hs, hm, ht, hb, fun ks vs hc hv => ?_⟩
  walk_at "yd"
  intro w
  walk_at "yx"
  refine r_cons ?_
  walk_at "yset"
  walk_at "yc"
  refine ea_cons ?_ (by intro _; rfl)
  walk_at "yc"
  walk_at "ys"
  walk_at "yn"
  refine ⟨b, m, R, rfl, rfl, hs, hm, ?_⟩
  walk_at "yd"
  walk_at "ys"
  walk_at "yn"
  refine ⟨b, m, turned R, _, rfl, rfl, .l, turned_sq hs, hm, ht.turned hs, hb, fun ks' vs' hc' hv' => ?_⟩
  walk_at "yz"
  rw [fz_ddO]
  walk_at "yx"
  refine r_cons ?_
  refine s_lock .hd (fun ob us => ?_) (fun _ _ _ h => h)
  refine s_for ?_ (by intro _ _; rfl)
  refine it_keys ?_
  walk_at "ys"
  refine ⟨w, ob, us, _, _, _, rfl, .hd, ?_⟩
  rw [keysD_pk]
  refine ⟨fun k env2 => ∃ x1 x2 x3, env2 = ⟨[some (grU R), some (.int b), some (.raw w), some (.dic (ks'.map pk) (vs'.map fun v => uD v)), x1, x2, x3], [(w, .kd ob us (ks.map pk) (vs.map vO))]⟩ ∧ ∀ (i j : Nat) (p p' : Pr) (v v' d : U b), i < k → ks[i]? = some p → vs[i]? = some v → Led R p p' d → Mtg R m p' → ks[j]? = some p' → vs[j]? = some v' → v' = v + d, ?_, ?_, ?_, ?_⟩
  · exact ⟨_, _, _, rfl, fun _ _ _ _ _ _ _ h => absurd h (by omega)⟩
  · intro k env2 _ ⟨x1, x2, x3, e, _⟩
    subst e
    exact ⟨_, _, .hd⟩
  · intro k z env2 hz ⟨x1, x2, x3, e, hk⟩
    subst e
    obtain ⟨p, hp, rfl⟩ := map_get hz
    obtain ⟨i, v, hi, hv1⟩ := dv_mem hc.len (List.mem_of_getElem? hp)
    obtain rfl : i = k := nodup_ix hc.nodup hi hp
    have hA := hc.sound i p v hi hv1
    have hpl := hA.lt hs
    walk_at "ys"
    refine s_for ?_ (by intro _ _; rfl)
    refine it_lst ?_
    walk_at "ys"
    walk_at "yn"
    refine ⟨b, m, R, _, p, rfl, rfl, .t, hs, hm, ht, hb, hpl.1, hpl.2, ?_⟩
    walk_at "yz"
    rw [fz_ldO]
    walk_at "yd"
    refine ⟨_, rfl, fun j env2 => ∃ x2 x3, env2 = ⟨[some (grU R), some (.int b), some (.raw w), some (.dic (ks'.map pk) (vs'.map fun v => uD v)), some (pkD p), x2, x3], [(w, .kd ob us (ks.map pk) (vs.map vO))]⟩ ∧ ∀ (i2 j2 : Nat) (y : Pr) (v' d : U b), i2 < j → (ledL R p)[i2]? = some (y, d) → Mtg R m y → ks[j2]? = some y → vs[j2]? = some v' → v' = v + d, ?_, fun _ _ _ _ => trivial, ?_, ?_⟩
    · exact ⟨_, _, rfl, fun _ _ _ _ _ h => absurd h (by omega)⟩
    · intro j z env2 hz ⟨x2, x3, e, hj⟩
      subst e
      obtain ⟨⟨y, d⟩, hyd, rfl⟩ := map_get hz
      have hl : Led R p y d := mem_ledL.mp (List.mem_of_getElem? hyd)
      obtain ⟨j2, v', hj2, hv2⟩ := dv_mem hc.len (hc.mem (hA.step hl))
      simp only [ldD]
      walk_at "ys"
      refine ⟨_, _, _, .fr, pk_key y, ?_⟩
      rw [hasK_pk]
      by_cases hy : y ∈ ks'
      · rw [decide_eq_true hy]
        have hM := (hc'.mtg hs).mp hy
        walk_at "ys"
        walk_at "ydg"
        walk_at "ys"
        refine ⟨_, _, _, uD v', .kd .hd, pk_key y, dGet_pk hc.nodup hj2 (by rw [List.getElem?_map, hv2]; rfl), ?_⟩
        walk_at "yc"
        refine ea_cons ?_ (by intro _; rfl)
        walk_at "ydg"
        walk_at "ys"
        refine ⟨_, _, _, uD v, .kd .hd, pk_key p, dGet_pk hc.nodup hi (by rw [List.getElem?_map, hv1]; rfl), ?_⟩
        walk_at "ys"
        walk_at "yn"
        refine ⟨v.1, d.1, rfl, rfl, by rw [v.2, d.2], by rw [v.2]; exact hb, (hv v (List.mem_of_getElem? hv1)).uz (by decide), (hl.bt ht).uz (by decide), ?_⟩
        walk_at "yd"
        refine op_neU (u := v') (v := v + d) ?_
        by_cases e : v' = v + d
        · rw [decide_eq_true e]
          walk_at "ys"
          refine ⟨_, _, rfl, fun i2 j3 y' w' d' h1 h2 h3 h4 h5 => ?_⟩
          by_cases q : i2 < j
          · exact hj i2 j3 y' w' d' q h2 h3 h4 h5
          · obtain rfl : i2 = j := by omega
            rw [hyd] at h2
            cases h2
            obtain rfl := nodup_ix hc.nodup hj2 h4
            rw [hv2] at h5
            cases h5
            exact e
        · rw [decide_eq_false e]
          walk_at "ys"
          refine ⟨_, _, .hd, fin_nil (hP1 ?_)⟩
          exact not_uniq hA hl hM (hc.sound j2 y v' hj2 hv2) e
      · rw [decide_eq_false hy]
        walk_at "ys"
        refine ⟨_, _, rfl, fun i2 j3 y' w' d' h1 h2 h3 h4 h5 => ?_⟩
        by_cases q : i2 < j
        · exact hj i2 j3 y' w' d' q h2 h3 h4 h5
        · obtain rfl : i2 = j := by omega
          rw [hyd] at h2
          cases h2
          exact absurd ((hc'.mtg hs).mpr h3) hy
    · intro env2 ⟨x2, x3, e, hj⟩
      subst e
      walk_at "ys"
      refine ⟨_, _, _, rfl, fun i2 j2 p2 p' u v' d h1 h2 h3 h4 h5 h6 h7 => ?_⟩
      by_cases q : i2 < i
      · exact hk i2 j2 p2 p' u v' d q h2 h3 h4 h5 h6 h7
      · obtain rfl : i2 = i := by omega
        rw [hi] at h2
        cases h2
        rw [hv1] at h3
        cases h3
        obtain ⟨i3, h8⟩ := List.mem_iff_getElem?.mp (mem_ledL.mpr h4)
        exact hj i3 j2 p' v' d (by rw [List.length_map]; exact enum_at h8) h8 h5 h6 h7
  · intro env2 ⟨x1, x2, x3, e, hk⟩
    subst e
    have hT : Tune R m ks vs := fun i j p p' v v' d h1 h2 h3 h4 h5 h6 => hk i j p p' v v' d (by rw [List.length_map]; exact enum_at h1) h1 h2 h3 h4 h5 h6
    have hU := hc.uniq hT
    refine ⟨_, _, .hd, ?_⟩
    walk_at "yz"
    refine r_cons ?_
    refine s_retO ?_
    refine eo_lock .hd (fun ob us => ?_) (fun _ _ _ h => h)
    refine eo_dcT [("pair", 4)] (by kernel_rfl) ?_ (by intro _ _; rfl)
    refine it_keys ?_
    walk_at "ys"
    refine ⟨w, ob, us, _, _, _, rfl, .hd, ?_⟩
    rw [keysD_pk]
    have e1 : ((((ks.zip vs).map fun p => if p.1 ∈ ks' then some (pk p.1, uD p.2) else none).filterMap id).map (·.1)) = ((cutP ks' ks vs).map (·.1)).map pk := by
      rw [cutP_fm, List.map_map, List.map_map]; rfl
    have e2 : ((((ks.zip vs).map fun p => if p.1 ∈ ks' then some (pk p.1, uD p.2) else none).filterMap id).map (·.2)).map O.s = ((cutP ks' ks vs).map (·.2)).map vO := by
      rw [cutP_fm, List.map_map, List.map_map, List.map_map]; rfl
    have hD := cutP_due hc fun k => hc'.mtg hs
    refine ⟨(ks.zip vs).map fun p => if p.1 ∈ ks' then some (pk p.1, uD p.2) else none, by simp [hc.len], ?_, fun _ _ _ _ => ⟨_, _, .tl .hd⟩, fun k z y hz hy => ?_, ?_, ?_⟩
    · have := pairs_le hc.nodup fun x hx => by
        obtain ⟨i, v, h1, h2⟩ := dv_mem hc.len hx
        exact (hc.sound i x v h1 h2).lt hs
      have : m * m ≤ 10 * 10 := Nat.mul_le_mul hm hm
      rw [List.length_map]; omega
    · obtain ⟨p, hp, rfl⟩ := map_get hz
      obtain ⟨⟨p', v⟩, hpv, rfl⟩ := map_get hy
      rw [List.getElem?_zip_eq_some] at hpv
      obtain rfl : p = p' := by
        have := hpv.1
        rw [hp] at this
        exact Option.some.inj this
      refine ⟨_, by walk_at "ybd", by simp, ts_one ?_⟩
      walk_at "yw"
      walk_at "ys"
      refine ⟨_, _, _, .fr, pk_key p, ?_⟩
      rw [hasK_pk]
      refine ⟨rfl, ?_, fun y' e => ?_⟩
      · by_cases h : p ∈ ks' <;> simp [h]
      · have hp' : p ∈ ks' := by
          apply Classical.byContradiction
          intro z
          rw [if_neg z] at e
          cases e
        rw [if_pos hp'] at e
        cases e
        walk_at "ys"
        refine ⟨pk_key p, ?_⟩
        walk_at "ydg"
        walk_at "ys"
        exact ⟨_, _, _, uD v, .kd .hd, pk_key p, dGet_pk hc.nodup hp (by rw [List.getElem?_map, hpv.2]; rfl), rfl, rfl⟩
    · rw [e1]
      exact pk_nodup hD.nodup
    · walk_at "yz"
      rw [e1, e2]
      refine ⟨_, _, .hd, fin_nil ?_⟩
      exact hP2 _ _ hU hD fun v hv' => by
        obtain ⟨q, hq, rfl⟩ := List.mem_map.mp hv'
        have h5 := (List.mem_filter.mp hq).1
        exact hv _ (List.of_mem_zip h5).2

set_option maxHeartbeats 2000000
def S_keeps (C : Addr) : Spec := fun zs rs P _ => ∃ (b m : Nat) (R : GR b), zs = [gD C R] ∧ rs = [] ∧ Gv m m R ∧ (¬ Uniq R m → P (.s (.bl false)) []) ∧ (Uniq R m → P (.s (.bl true)) [])
theorem f_keeps {g : Pg} {C f : Addr} (G : GridC g C f) (hd : Dx g "keeps" st_keeps) (f1 : Fn g "check_square_grid" 1 (S_check_square_grid C)) (f2 : Fn g "raw_differences" 7 S_raw_differences) : Fn g "keeps" 8 (S_keeps C) := by
  refine fm_keeps hd (fun zs rs P P2 h => by obtain ⟨b, m, R, rfl, _⟩ := h; rfl) fun zs rs P P2 h => ?_
  obtain ⟨b, m, R, rfl, rfl, hg, hP1, hP2⟩ := h
  walk_at "y0"
  walk_at "ys"
  walk_at "yn"
  refine ⟨b, m, R, rfl, rfl, hg, ?_⟩
  walk_at "yd"
  walk_at "ys"
  refine ⟨_, _, _, _, _, rfl, G.cls, G.n2, rfl, rfl, ?_⟩
  walk_at "ys"
  refine ⟨_, _, _, _, _, rfl, G.cls, G.n1, rfl, rfl, ?_⟩
  walk_at "ys"
  walk_at "yn"
  refine ⟨b, m, R, rfl, rfl, hg.sq, hg.n2, hg.tb, by have := hg.hb; omega, fun h => ?_, fun ks vs h1 h2 h3 => ?_⟩
  · walk_at "yd"
    exact fin_nil (hP1 h)
  · walk_at "yz"
    rw [fz_ddO]
    exact fin_nil (hP2 h1)

set_option maxHeartbeats 2000000
/-! the hand that draws -/
def hndO (cells : List Int) (i k s j : Int) : O := .l [.s (.lst (cells.map D.int)), .s (.int i), .s (.int k), .s (.int s), .s (.int j)]
def Hnd (o : O) : Prop := ∃ cells i k s j, o = hndO cells i k s j ∧ (∀ x ∈ cells, 0 ≤ x) ∧ 0 ≤ i ∧ 0 ≤ k ∧ 0 ≤ s ∧ s < 18446744073709551616 ∧ 0 ≤ j
def S_law_hand : Spec := fun zs rs P _ => ∃ ns : List Int, zs = [.lst (ns.map D.int)] ∧ rs = [] ∧ ns.length ≤ 63 ∧ ∀ o, Hnd o → P o []
theorem f__law_hand {g : Pg} (hd : Dx g "_law_hand" st__law_hand) (m1 : g.mg "abs" = none) (m2 : g.mg "int" = none) (m3 : g.mg "len" = none) : Fn g "_law_hand" 1 S_law_hand := by
  refine fm__law_hand hd (fun zs rs P P2 h => by obtain ⟨ns, rfl, _⟩ := h; rfl) fun zs rs P P2 h => ?_
  obtain ⟨ns, rfl, rfl, hl, hP⟩ := h
  walk_at "y0"
  refine s_setLcT [("_law_cell", 2)] (by kernel_rfl) ?_ (by walk_at "yk") (by walk_at "yi") (by intro _ _; rfl) (by rfl) (by rfl)
  refine it_lst ?_
  refine EO.toE (eo_slL ?_)
  walk_at "ys"
  show E _ _ _ _ _
  walk_at "ys"
  refine ⟨_, rfl, _, rfl, ?_⟩
  have e : (O.l ((cutD (ns.map D.int) none (some 63)).map O.s)).fz = .lst (ns.map D.int) := by
    have : cutD (ns.map D.int) none (some 63) = ns.map D.int := by
      unfold cutD
      have e1 : HT.sIx (ns.map D.int).length 0 none = 0 := rfl
      have e2 : (ns.map D.int).length ≤ HT.sIx (ns.map D.int).length (ns.map D.int).length (some 63) := by
        simp only [HT.sIx, List.length_map]
        rw [if_neg (by decide)]
        have : Int.toNat 63 = 63 := rfl
        omega
      rw [e1, List.drop_zero, Nat.sub_zero, List.take_of_length_le e2]
    simp only [O.fz, fzs_map, this]
  rw [e]
  refine ⟨_, rfl, (ns.map fun n => (n.natAbs : Int)).map D.int, by simp, by simp; omega, fun _ _ _ => trivial, fun k z y hz hy => ?_, ?_⟩
  · obtain ⟨n, hn, rfl⟩ := map_get hz
    obtain ⟨n', hn', rfl⟩ := map_get hy
    obtain ⟨n2, hn2, rfl⟩ := map_get hn'
    rw [hn] at hn2
    cases hn2
    refine ⟨_, by walk_at "ybd", by simp, ?_⟩
    walk_at "yw"
    walk_at "ys"
    exact ⟨rfl, rfl⟩
  · walk_at "yx"
    refine r_cons ?_
    refine s_retO (eo_lst ?_)
    walk_at "ys"
    refine fin_nil (hP _ ⟨_, _, _, _, _, rfl, ?_, by decide, by decide, ?_, ?_, by decide⟩)
    · intro x hx
      obtain ⟨n, _, rfl⟩ := List.mem_map.mp hx
      omega
    · simp only [List.length_map]; omega
    · simp only [List.length_map]; omega
def S_law_draw : Spec := fun zs rs P _ => ∃ (w : V) (o : O) (many : Nat), zs = [.raw w, .int many] ∧ rs = [(w, o)] ∧ Hnd o ∧ 0 < many ∧ many ≤ 1000000 ∧ ∀ o' (r : Nat), Hnd o' → r < many → P (.s (.int r)) [(w, o')]
theorem f__law_draw {g : Pg} (hd : Dx g "_law_draw" st__law_draw) (m2 : g.mg "int" = none) (m3 : g.mg "len" = none) : Fn g "_law_draw" 1 S_law_draw := by
  refine fm__law_draw hd (fun zs rs P P2 h => by obtain ⟨w, o, many, rfl, _⟩ := h; rfl) fun zs rs P P2 h => ?_
  obtain ⟨w, o, many, rfl, rfl, ⟨cells, i, k, s, j, rfl, hc, hi, hk, hs1, hs2, hj⟩, hm, hm2, hP⟩ := h
  have hP' : ∀ (o' : O) (r : Int), Hnd o' → 0 ≤ r → r < many → P (.s (.int r)) [(w, o')] := fun o' r h1 h2 h3 => by
    have := hP o' r.toNat h1 (by omega)
    rwa [Int.toNat_of_nonneg h2] at this
  have hmod : ∀ (x : Int) {m : Int}, 0 < m → 0 ≤ x % m ∧ x % m < m := fun x m h => ⟨Int.emod_nonneg _ (by omega), Int.emod_lt_of_pos _ h⟩
  simp only [hndO]
  walk_at "ya"
  refine r_cut (fun env1 => ∃ i k s x, env1 = ⟨[some (.raw w), some (.int many), x, none, none], [(w, hndO cells i k s j)]⟩ ∧ 0 ≤ i ∧ 0 ≤ k ∧ 0 ≤ s ∧ s < 18446744073709551616) ?_ fun env1 ⟨i, k, s, x, e, hi, hk, hs1, hs2⟩ => ?_
  · walk_at "ys"
    refine ⟨fun h0 => ?_, fun h0 => ?_⟩
    · walk_at "ys"
      refine ⟨fun h1 => ?_, fun h1 => ?_⟩
      · have h2 : i < (cells.length : Int) := by simpa using h1
        have h3 : i.toNat < cells.length := by omega
        obtain ⟨c, hcc⟩ : ∃ c, cells[i.toNat]? = some c := ⟨_, List.getElem?_eq_getElem h3⟩
        have hc0 := hc c (List.mem_of_getElem? hcc)
        walk_at "ys"
        refine ⟨_, .int c, rfl, ?_, ?_⟩
        · have := ixD_nat (xs := cells.map D.int) (k := i.toNat) (z := .int c) (by rw [List.getElem?_map, hcc]; rfl)
          rwa [Int.toNat_of_nonneg hi] at this
        walk_at "ys"
        have hb := hmod (s * 69621 + c + 11) (m := 2147483629) (by decide)
        refine ⟨fun h4 => ?_, fun h4 => ?_⟩
        · walk_at "ys"
          exact ⟨_, _, _, _, rfl, by omega, hc0, hb.1, by omega⟩
        · walk_at "ys"
          exact ⟨_, _, _, _, rfl, by omega, hk, hb.1, by omega⟩
      · walk_at "ys"
        exact ⟨_, _, _, _, rfl, hi, hk, hs1, hs2⟩
    · walk_at "ys"
      exact ⟨_, _, _, _, rfl, hi, hk, hs1, hs2⟩
  · subst e
    simp only [hndO]
    walk_at "ys"
    refine ⟨fun h0 => ?_, fun h0 => ?_⟩
    · walk_at "ys"
      exact fin_one .hd (hP' _ _ ⟨_, _, _, _, _, rfl, hc, hi, Int.ediv_nonneg hk (by omega), hs1, hs2, hj⟩ (hmod k (by omega)).1 (hmod k (by omega)).2)
    · walk_at "ys"
      refine op_mulI (.inl ⟨by omega, by omega⟩) ?_
      walk_at "ys"
      refine op_mulI (.inl ⟨by omega, by omega⟩) ?_
      walk_at "ys"
      exact fin_one .hd (hP' _ _ ⟨_, _, _, _, _, rfl, hc, hi, hk, hs1, hs2, by omega⟩ (hmod _ (by omega)).1 (hmod _ (by omega)).2)

set_option maxHeartbeats 2000000
def S_law_lowest : Spec := fun zs rs P _ => ∃ t b : Int, zs = [.int t, .int b] ∧ rs = [] ∧ 0 < b ∧ Sz 4000 b ∧ P (.s (fr (Rat.divInt t b))) []
theorem f__law_lowest {g : Pg} (hd : Dx g "_law_lowest" st__law_lowest) (m1 : g.mg "abs" = none) (m2 : g.mg "int" = none) : Fn g "_law_lowest" 1 S_law_lowest := by
  refine fm__law_lowest hd (fun zs rs P P2 h => by obtain ⟨i, a, rfl, _⟩ := h; rfl) fun zs rs P P2 h => ?_
  obtain ⟨t, b, rfl, rfl, hb, hz, hP⟩ := h
  have g1 := gcd_pos (t := t) hb
  have g2 := gcd_small (t := t) hb hz (Nat.le_refl _)
  rw [fr_divInt hb] at hP
  walk_at "y0"
  walk_at "ys"
  refine ⟨_, _, _, rfl, by walk_at "yp", _, by walk_at "yp", ?_⟩
  refine r_cons ?_
  refine s_while (fun m env => ∃ x y : Nat, env = ⟨[some (.int t), some (.int b), some (.int x), some (.int y)], []⟩ ∧ m = y ∧ Nat.gcd x y = Int.gcd t b) ?_ fun m env hI => ?_
  · exact ⟨b.natAbs, t.natAbs, b.natAbs, by rw [show ((b.natAbs : Nat) : Int) = b by omega], rfl, rfl⟩
  obtain ⟨x, y, rfl, rfl, hg⟩ := hI
  walk_at "ys"
  refine ⟨fun h => ?_, fun h => ?_⟩
  · have hy : 0 < m := by simpa using h
    walk_at "ys"
    refine ⟨_, _, _, rfl, by walk_at "yp", _, by walk_at "yp", ?_⟩
    walk_at "ys"
    exact ⟨x % m, Nat.mod_lt _ hy, m, x % m, rfl, rfl, by rw [Nat.gcd_comm, ← Nat.gcd_rec, Nat.gcd_comm, hg]⟩
  · have hy : m = 0 := by
      have := of_decide_eq_false h
      omega
    subst hy
    rw [Nat.gcd_zero_right] at hg
    subst hg
    walk_at "ys"
    refine op_divI g1 g2 ?_
    walk_at "ys"
    refine op_divI g1 g2 ?_
    walk_at "ys"
    exact fin_nil hP
def S_law_plus : Spec := fun zs rs P _ => ∃ p q : Rat, zs = [fr p, fr q] ∧ rs = [] ∧ Qz 1900 p ∧ Qz 1900 q ∧ P (.s (fr (p + q))) []
theorem f__law_plus {g : Pg} (hd : Dx g "_law_plus" st__law_plus) (f1 : Fn g "_law_lowest" 1 S_law_lowest) : Fn g "_law_plus" 2 S_law_plus := by
  refine fm__law_plus hd (fun zs rs P P2 h => by obtain ⟨i, a, rfl, _⟩ := h; rfl) fun zs rs P P2 h => ?_
  obtain ⟨p, q, rfl, rfl, hp, hq, hP⟩ := h
  rw [add_eq] at hP
  simp only [fr] at hP ⊢
  walk_at "y0"
  walk_at "ys"
  refine op_mulS hp.1 hq.den (by decide) ?_
  walk_at "ys"
  refine op_mulS hq.1 hp.den (by decide) ?_
  walk_at "ys"
  refine op_mulS hp.den hq.den (by decide) ?_
  walk_at "ys"
  walk_at "yn"
  refine ⟨_, _, rfl, rfl, Int.mul_pos (pos_den p) (pos_den q), (hp.den.mul hq.den).mono (by decide), ?_⟩
  exact fin_nil hP
def S_law_unitless : Spec := fun zs rs P _ => ∃ b : Nat, zs = [.int b] ∧ rs = [] ∧ b ≤ 1000 ∧ P (.s (uD (0 : U b))) []
theorem f__law_unitless {g : Pg} (hd : Dx g "_law_unitless" st__law_unitless) : Fn g "_law_unitless" 1 S_law_unitless := by
  refine fm__law_unitless hd (fun zs rs P P2 h => by obtain ⟨i, rfl, _⟩ := h; rfl) fun zs rs P P2 h => ?_
  obtain ⟨b, rfl, rfl, hb, hP⟩ := h
  walk_at "y0"
  walk_at "ys"
  refine op_repT (by simp) (by omega) (by omega) (by decide) ?_
  refine fin_nil ?_
  have e : D.tup (List.replicate (b : Int).toNat [D.tup [.int 0, .int 1]]).flatten = uD (0 : U b) := by
    show _ = un (u0 b)
    simp only [un, u0, Int.toNat_natCast, List.map_replicate]
    congr 1
    clear hP
    induction b with
    | zero => rfl
    | succ b ih => 
      rw [List.replicate_succ, List.flatten_cons, List.replicate_succ, ih (by omega)]
      rfl
  rw [e]
  exact hP
def sgn (s : Bool) : Int := if s then 1 else -1
def S_law_unit_sum : Spec := fun zs rs P _ => ∃ (b : Nat) (u v : U b) (s : Bool), zs = [uD u, uD v, .int (sgn s)] ∧ rs = [] ∧ b ≤ 1000 ∧ Uz 1900 u.1 ∧ Uz 1900 v.1 ∧ P (.s (uD (if s then u + v else u - v))) []
def sgq (s : Bool) (q : Rat) : Rat := if s then q else -q
theorem sgq_D (s : Bool) (q : Rat) : D.tup [.int (sgn s * q.num), .int (q.den : Nat)] = fr (sgq s q) := by
  cases s with
  | true => simp [sgn, sgq, fr]
  | false => simp [sgn, sgq, fr, Rat.neg_num, Rat.neg_den]
theorem sgq_z {n : Nat} {q : Rat} (s : Bool) (h : Qz n q) : Qz n (sgq s q) := by
  cases s with
  | true => exact h
  | false => exact h.neg
theorem sgn_z (s : Bool) : Sz 1 (sgn s) := by cases s <;> (unfold Sz sgn; decide)
theorem sum_zip (s : Bool) {b : Nat} (u v : U b) : (if s then u + v else u - v).1 = List.zipWith (fun a c => a + sgq s c) u.1 v.1 := by
  cases s with
  | true => rfl
  | false =>
    show List.zipWith (· - ·) u.1 v.1 = _
    congr 1
    funext a c
    simp only [sgq, Bool.false_eq_true, if_false, Rat.sub_eq_add_neg]
theorem f__law_unit_sum {g : Pg} (hd : Dx g "_law_unit_sum" st__law_unit_sum) (f1 : Fn g "_law_plus" 2 S_law_plus) (m1 : g.mg "tuple" = none) (m2 : g.mg "zip" = none) : Fn g "_law_unit_sum" 3 S_law_unit_sum := by
  refine fm__law_unit_sum hd (fun zs rs P P2 h => by obtain ⟨b, u, v, s, rfl, _⟩ := h; rfl) fun zs rs P P2 h => ?_
  obtain ⟨b, u, v, s, rfl, rfl, hb, hu, hv, hP⟩ := h
  have lu := u.2
  have lv := v.2
  simp only [un]
  walk_at "y0"
  walk_at "ys"
  refine e_lcT [("_law_first", 3), ("_law_second", 4)] (by kernel_rfl) ?_ (by intro _ _; rfl)
  refine it_zip m2 (by walk_at "yk") ?_ (by intro _; rfl) (by intro _; rfl)
  walk_at "ys"
  refine ⟨u.1.map fr, v.1.map fr, .inl rfl, (List.zipWith (fun a c => a + sgq s c) u.1 v.1).map fr, by simp [zipD_len], by simp [zipD_len]; omega, fun _ _ _ => trivial, fun k z y hz hy => ?_, ?_⟩
  · obtain ⟨a, c, ha, hc, rfl⟩ := zipD_fr hz
    obtain rfl := zipW_at (f := fun a c => a + sgq s c) hy ha hc
    have hqa := hu.at ha
    have hqc := hv.at hc
    refine ⟨_, by walk_at "ybd", by simp, ?_⟩
    walk_at "yw"
    walk_at "ys"
    refine op_mulS (sgn_z s) hqc.1 (by decide) ?_
    walk_at "ys"
    rw [sgq_D]
    walk_at "yn"
    refine ⟨_, _, rfl, rfl, hqa, sgq_z s hqc, ?_⟩
    exact ⟨rfl, rfl⟩
  · dsimp only
    rw [← sum_zip] 
    walk_at "ys"
    exact cbF_tuple rfl (fin_nil hP)
/-! halves -/
def Hf (n : Nat) (q : Rat) : Prop := ∃ a : Int, q = Rat.divInt a 2 ∧ a.natAbs ≤ n
theorem Hf.add {n k : Nat} {p q : Rat} (h : Hf n p) (g : Hf k q) : Hf (n + k) (p + q) := by
  obtain ⟨a, rfl, ha⟩ := h
  obtain ⟨c, rfl, hc⟩ := g
  refine ⟨a + c, ?_, by omega⟩
  rw [Rat.divInt_add_divInt _ _ (by decide) (by decide), ← Int.add_mul, Rat.divInt_mul_right (by decide)]
theorem Hf.neg {n : Nat} {p : Rat} (h : Hf n p) : Hf n (-p) := by
  obtain ⟨a, rfl, ha⟩ := h
  exact ⟨-a, by rw [Rat.neg_divInt], by omega⟩
theorem Hf.sub {n k : Nat} {p q : Rat} (h : Hf n p) (g : Hf k q) : Hf (n + k) (p - q) := by
  rw [Rat.sub_eq_add_neg]; exact h.add g.neg
theorem Hf.mono {n k : Nat} {p : Rat} (h : Hf n p) (l : n ≤ k) : Hf k p := by
  obtain ⟨a, e, ha⟩ := h
  exact ⟨a, e, by omega⟩
theorem Hf.num {n : Nat} {q : Rat} (h : Hf n q) : q.num.natAbs ≤ n ∧ q.den ≤ 2 := by
  obtain ⟨a, rfl, ha⟩ := h
  constructor
  · rw [Rat.num_divInt]
    have : (a.natAbs / (Int.gcd 2 a)) ≤ a.natAbs := Nat.div_le_self _ _
    rw [show Int.sign 2 = 1 from rfl, Int.one_mul, Int.natAbs_ediv_of_dvd (Int.gcd_dvd_right _ _)]
    rw [Int.natAbs_natCast]
    omega
  · rw [Rat.den_divInt, if_neg (by decide)]
    exact Nat.div_le_self _ _
def Hu {b : Nat} (n : Nat) (u : U b) : Prop := ∀ q ∈ u.1, Hf n q
theorem Hu.mono {b n k : Nat} {u : U b} (h : Hu n u) (l : n ≤ k) : Hu k u := fun q hq => (h q hq).mono l
theorem hf_zipWith {f : Rat → Rat → Rat} {n : Nat} : ∀ {u v : Un}, (∀ p ∈ u, ∀ q ∈ v, Hf n (f p q)) → ∀ q ∈ List.zipWith f u v, Hf n q
  | [], v, h, q, hq => by simp at hq
  | a :: u, [], h, q, hq => by simp at hq
  | a :: u, c :: v, h, q, hq => by
    rcases List.mem_cons.mp (show q ∈ f a c :: List.zipWith f u v from hq) with rfl | hq
    · exact h a (by simp) c (by simp)
    · exact hf_zipWith (fun p hp q hq => h p (List.mem_cons_of_mem _ hp) q (List.mem_cons_of_mem _ hq)) q hq
theorem Hu.add {b n k : Nat} {u v : U b} (h : Hu n u) (g : Hu k v) : Hu (n + k) (u + v) := hf_zipWith fun p hp q hq => (h p hp).add (g q hq)
theorem Hu.sub {b n k : Nat} {u v : U b} (h : Hu n u) (g : Hu k v) : Hu (n + k) (u - v) := hf_zipWith fun p hp q hq => (h p hp).sub (g q hq)
theorem Hf.tw {n : Nat} {q : Rat} (h : Hf n q) : Tw (6 * n) q := by
  obtain ⟨a, rfl, ha⟩ := h
  refine ⟨a * 6, ?_, by omega⟩
  rw [show (12 : Int) = 2 * 6 from rfl, Rat.divInt_mul_right (by decide)]
theorem Hu.bt {b n : Nat} {u : U b} (h : Hu n u) : Bt (6 * n) u := fun q hq => (h q hq).tw
theorem Hu.uz {b n : Nat} {u : U b} (h : Hu n u) (l : n ≤ 100000) : Uz 1900 u.1 := h.bt.uz (by omega)
def S_law_unit : Spec := fun zs rs P _ => ∃ (w : V) (o : O) (b most : Nat), zs = [.raw w, .int b, .int most] ∧ rs = [(w, o)] ∧ Hnd o ∧ b ≤ 10 ∧ most ≤ 100 ∧ ∀ o' (u : U b), Hnd o' → Hu (2 * most) u → P (.s (uD u)) [(w, o')]
theorem f__law_unit {g : Pg} (hd : Dx g "_law_unit" st__law_unit) (f1 : Fn g "_law_draw" 1 S_law_draw) (f2 : Fn g "_law_lowest" 1 S_law_lowest) (m1 : g.mg "tuple" = none) (m2 : g.mg "range" = none) : Fn g "_law_unit" 2 S_law_unit := by
  refine fm__law_unit hd (fun zs rs P P2 h => by obtain ⟨i, a, b, c, rfl, _⟩ := h; rfl) fun zs rs P P2 h => ?_
  obtain ⟨w, o, b, most, rfl, rfl, hH, hb, hm, hP⟩ := h
  walk_at "y0"
  walk_at "ys"
  intro w2
  walk_at "yx"
  walk_at "yz"
  refine r_sw ?_
  refine r_cons ?_
  refine s_for ?_ (by intro _ _; rfl)
  refine it_rng m2 (by walk_at "yk") ?_ (by intro _; rfl)
  walk_at "ys"
  refine ⟨_, rfl, by omega, fun k env2 => ∃ (o' : O) (l : Un) (x1 x2 : Option D), env2 = ⟨[some (.raw w), some (.int b), some (.int most), some (.raw w2), x1, x2], [(w, o'), (w2, .l ((l.map fr).map O.s))]⟩ ∧ Hnd o' ∧ l.length = k ∧ ∀ q ∈ l, Hf (2 * most) q, ?_, fun _ _ _ _ => trivial, ?_, ?_⟩
  · exact ⟨o, [], _, _, rfl, hH, rfl, fun _ h => by simp at h⟩
  · intro k z env2 hz ⟨o', l, x1, x2, e, hH, hl, hq⟩
    subst e
    obtain ⟨hk, rfl⟩ := rng_get hz
    walk_at "ys"
    walk_at "yn1"
    refine ⟨w, o', 4, rfl, rfl, hH, by decide, by decide, fun o2 r h2 hr => ?_⟩
    walk_at "yd"
    obtain ⟨c, hc, hcb⟩ : ∃ c : Int, ixD (.lst [.int 1, .int 1, .int 1, .int 2]) (r : Nat) = some (.int c) ∧ (c = 1 ∨ c = 2) := by
      have : r = 0 ∨ r = 1 ∨ r = 2 ∨ r = 3 := by omega
      rcases this with rfl | rfl | rfl | rfl
      · exact ⟨1, rfl, .inl rfl⟩
      · exact ⟨1, rfl, .inl rfl⟩
      · exact ⟨1, rfl, .inl rfl⟩
      · exact ⟨2, rfl, .inr rfl⟩
    refine ⟨_, _, rfl, hc, ?_⟩
    walk_at "ys"
    refine E.toO ?_
    walk_at "ys"
    walk_at "yn1"
    refine ⟨w, o2, 2 * most + 1, by simp, rfl, h2, by omega, by omega, fun o3 r3 h3 hr3 => ?_⟩
    walk_at "yd"
    walk_at "ys"
    walk_at "yn"
    refine ⟨_, _, rfl, rfl, by omega, by rcases hcb with rfl | rfl <;> exact Sz.mono (n := 2) (by unfold Sz; decide) (by decide), ?_⟩
    walk_at "yd"
    refine ⟨_, _, .tl .hd, by simp only [List.length_map]; omega, ?_⟩
    walk_at "ys"
    refine ⟨o3, l ++ [Rat.divInt ((r3 : Int) - most) c], _, _, by rw [List.map_append, List.map_append]; rfl, h3, by simp [hl], fun q hq2 => ?_⟩
    rcases List.mem_append.mp hq2 with hq2 | hq2
    · exact hq q hq2
    · rw [List.mem_singleton.mp hq2]
      rcases hcb with rfl | rfl
      · refine ⟨((r3 : Int) - most) * 2, ?_, by omega⟩
        rw [show (2 : Int) = 1 * 2 from rfl, ← Int.mul_assoc, Int.mul_one, Rat.divInt_mul_right (by decide)]
      · exact ⟨_, rfl, by omega⟩
  · intro env2 ⟨o', l, x1, x2, e, hH, hl, hq⟩
    subst e
    refine r_frzV (x := "_law_found") (by walk_at "yl") (by walk_at "yp") (by walk_at "yt") ?_
    simp only [O.fz, fzs_map]
    walk_at "ys"
    have hl2 : l.length = b := by simpa using hl
    subst hl2
    exact cbF_tuple rfl (fin_one .hd (hP o' ⟨l, rfl⟩ hH hq))

set_option maxHeartbeats 4000000
/-- a drawn grid -/
structure Dr {b : Nat} (m n : Nat) (R : GR b) : Prop where
  len : R.length = m
  row : ∀ r ∈ R, r.length = n
  cell : ∀ r ∈ R, ∀ u, some u ∈ r → Hu 6 u
theorem Dr.gv {b m n : Nat} {R : GR b} (h : Dr m n R) (hb1 : 1 ≤ b) (hb : b ≤ 3) (m1 : 1 ≤ m) (m2 : m ≤ 10) (n1 : 1 ≤ n) (n2 : n ≤ 10) : Gv m n R := ⟨hb1, hb, h.len, m1, m2, n1, n2, h.row, fun r hr u hu q hq => by
  have := (h.cell r hr u hu q hq).num
  omega⟩
/-- a row under way -/
def rwO {b : Nat} (r : List (Option (U b))) : O := .l ((r.map clU).map O.s)
def rsO {b : Nat} (R : GR b) : O := .l (R.map rwO)
theorem fz_rwO {b : Nat} (r : List (Option (U b))) : (rwO r).fz = rlU r := by simp only [rwO, O.fz, fzs_map, rlU]
theorem fzs_rwO {b : Nat} : ∀ R : GR b, O.fzs (R.map rwO) = R.map rlU
  | [] => by simp [O.fzs]
  | r :: R => by simp only [List.map_cons, O.fzs, fz_rwO, fzs_rwO R]
theorem fz_rsO {b : Nat} (R : GR b) : (rsO R).fz = lsU R := by simp only [rsO, O.fz, fzs_rwO, lsU]
theorem all_of {b : Nat} {Q : U b → Prop} : ∀ {ys : List D}, (∀ (k : Nat) (y : D), ys[k]? = some y → ∃ u : U b, y = uD u ∧ Q u) → ∃ us : List (U b), ys = us.map (fun u => uD u) ∧ ∀ u ∈ us, Q u
  | [], _ => ⟨[], rfl, fun _ h => by simp at h⟩
  | y :: ys, h => by
    obtain ⟨u, rfl, hu⟩ := h 0 y rfl
    obtain ⟨us, rfl, hus⟩ := all_of (ys := ys) fun k y' e => h (k + 1) y' (by simpa using e)
    exact ⟨u :: us, rfl, fun u' h' => by rcases List.mem_cons.mp h' with rfl | h'; exact hu; exact hus u' h'⟩
theorem ixN_nat {n k : Nat} (h : k < n) : ixN n (k : Int) = some k := by
  unfold ixN
  rw [if_pos (by omega), if_pos (by omega), Int.toNat_natCast]
theorem map_set {α β : Type} (f : α → β) (l : List α) (i : Nat) (x : α) : (l.map f).set i (f x) = (l.set i x).map f := by rw [List.map_set]
structure Dp1 {b : Nat} (n : Nat) (r : List (Option (U b))) : Prop where
  len : r.length = n
  cell : ∀ u, some u ∈ r → Hu 6 u
theorem Dp1.snoc {b n : Nat} {r : List (Option (U b))} {q : Option (U b)} (h : Dp1 n r) (hq : ∀ u, q = some u → Hu 6 u) : Dp1 (n + 1) (r ++ [q]) := ⟨by simp [h.len], fun u hu => by
  rcases List.mem_append.mp hu with hu | hu
  · exact h.cell u hu
  · exact hq u (List.mem_singleton.mp hu).symm⟩
theorem Dp1.set {b n : Nat} {r : List (Option (U b))} {u : U b} (h : Dp1 n r) (hq : Hu 6 u) (i : Nat) : Dp1 n (r.set i (some u)) := ⟨by simp [h.len], fun v hv => by
  rcases List.mem_or_eq_of_mem_set hv with hv | hv
  · exact h.cell v hv
  · cases hv; exact hq⟩
theorem Dr.of {b m n : Nat} {R : GR b} (hl : R.length = m) (h : ∀ r ∈ R, Dp1 n r) : Dr m n R := ⟨hl, fun r hr => (h r hr).len, fun r hr => (h r hr).cell⟩
def S_law_rows : Spec := fun zs rs P _ => ∃ (w : V) (o : O) (m b : Nat), zs = [.raw w, .int m, .int b] ∧ rs = [(w, o)] ∧ Hnd o ∧ 1 ≤ m ∧ m ≤ 10 ∧ b ≤ 10 ∧ ∀ o' (R : GR b), Hnd o' → Dr m m R → P (.s (grU R)) [(w, o')]
theorem f__law_rows {g : Pg} (hd : Dx g "_law_rows" st__law_rows) (f1 : Fn g "_law_draw" 1 S_law_draw) (f2 : Fn g "_law_unit" 2 S_law_unit) (f3 : Fn g "_law_unit_sum" 3 S_law_unit_sum) (m1 : g.mg "tuple" = none) (m2 : g.mg "range" = none) : Fn g "_law_rows" 4 S_law_rows := by
  refine fm__law_rows hd (fun zs rs P P2 h => by obtain ⟨i, a, b, c, rfl, _⟩ := h; rfl) fun zs rs P P2 h => ?_
  obtain ⟨w, o, m, b, rfl, rfl, hH, hm1, hm, hb, hP⟩ := h
  walk_at "y0"
  walk_at "ys"
  walk_at "yn1"
  refine ⟨w, o, 4, rfl, rfl, hH, by decide, by decide, fun o full hH hfull => ?_⟩
  walk_at "yd"
  walk_at "ys"
  walk_at "yn1"
  refine ⟨w, o, 3, rfl, rfl, hH, by decide, by decide, fun o kind hH hkind => ?_⟩
  walk_at "yd"
  walk_at "ys"
  refine s_setLcD [("_law_i", 5)] (by kernel_rfl) ?_ (by walk_at "yk") (by walk_at "yi") (by intro _ _; rfl) (by rfl) (by rfl)
  refine it_rng m2 (by walk_at "yk") ?_ (by intro _; rfl)
  walk_at "ys"
  refine ⟨_, rfl, by omega, fun rs => ∃ o', rs = [(w, o')] ∧ Hnd o', fun _ y => ∃ u : U b, y = uD u ∧ Hu 2 u, ⟨o, rfl, hH⟩, by simp; omega, fun _ _ _ _ _ => trivial, fun k z rs hz ⟨o', e, hH⟩ => ?_, fun ys rs hl hp ⟨o', e, hH⟩ => ?_⟩
  · subst e
    refine ⟨_, by walk_at "ybd", by simp, ?_⟩
    walk_at "yw"
    walk_at "ys"
    walk_at "yn1"
    refine ⟨w, o', b, 1, rfl, rfl, hH, by omega, by decide, fun o2 u h2 hu => ?_⟩
    exact ⟨⟨u, rfl, hu⟩, o2, rfl, h2⟩
  subst e
  obtain ⟨fs, rfl, hfu⟩ := all_of hp
  have hfl : fs.length = m := by simpa using hl
  walk_at "yx"
  refine r_cons ?_
  refine s_setLcD [("_law_j", 7)] (by kernel_rfl) ?_ (by walk_at "yk") (by walk_at "yi") (by intro _ _; rfl) (by rfl) (by rfl)
  refine it_rng m2 (by walk_at "yk") ?_ (by intro _; rfl)
  walk_at "ys"
  refine ⟨_, rfl, by omega, fun rs => ∃ o', rs = [(w, o')] ∧ Hnd o', fun _ y => ∃ u : U b, y = uD u ∧ Hu 2 u, ⟨_, rfl, hH⟩, by simp; omega, fun _ _ _ _ _ => trivial, fun k z rs hz ⟨o', e, hH⟩ => ?_, fun ys rs hl hp ⟨o', e, hH⟩ => ?_⟩
  · subst e
    refine ⟨_, by walk_at "ybd", by simp, ?_⟩
    walk_at "yw"
    walk_at "ys"
    walk_at "yn1"
    refine ⟨w, o', b, 1, rfl, rfl, hH, by omega, by decide, fun o2 u h2 hu => ?_⟩
    exact ⟨⟨u, rfl, hu⟩, o2, rfl, h2⟩
  subst e
  obtain ⟨ss, rfl, hsu⟩ := all_of hp
  have hsl : ss.length = m := by simpa using hl
  walk_at "yx"
  walk_at "ys"
  intro w3
  walk_at "yx"
  walk_at "yz"
  refine r_sw ?_
  refine r_cut (fun env2 => ∃ (o' : O) (R : GR b) (x5 x7 x10 x11 x12 : Option D), env2 = ⟨[some (.raw w), some (.int m), some (.int b), some (.int full), some (.int kind), x5, some (.lst (fs.map fun u => uD u)), x7, some (.lst (ss.map fun u => uD u)), some (.raw w3), x10, x11, x12], [(w, o'), (w3, rsO R)]⟩ ∧ Hnd o' ∧ R.length = m ∧ ∀ r ∈ R, Dp1 m r) ?_ fun env2 ⟨o', R, x5, x7, x10, x11, x12, e, hH, hR1, hR2⟩ => ?_
  · refine s_for ?_ (by intro _ _; rfl)
    refine it_rng m2 (by walk_at "yk") ?_ (by intro _; rfl)
    walk_at "ys"
    refine ⟨_, rfl, by omega, fun k env2 => ∃ (o' : O) (R : GR b) (x5 x7 x10 x11 x12 : Option D), env2 = ⟨[some (.raw w), some (.int m), some (.int b), some (.int full), some (.int kind), x5, some (.lst (fs.map fun u => uD u)), x7, some (.lst (ss.map fun u => uD u)), some (.raw w3), x10, x11, x12], [(w, o'), (w3, rsO R)]⟩ ∧ Hnd o' ∧ R.length = k ∧ ∀ r ∈ R, Dp1 m r, ?_, fun _ _ _ _ => trivial, ?_, ?_⟩
    · exact ⟨_, [], _, _, _, _, _, rfl, hH, rfl, fun _ h => by simp at h⟩
    · intro k z env2 hz ⟨o', R, x5, x7, x10, x11, x12, e, hH, hR1, hR2⟩
      subst e
      obtain ⟨hk, rfl⟩ := rng_get hz
      obtain ⟨fk, hfk⟩ : ∃ f, fs[k]? = some f := ⟨_, List.getElem?_eq_getElem (by omega)⟩
      walk_at "ys"
      intro w4
      walk_at "yx"
      walk_at "yz"
      refine r_sw ?_
      refine r_cut (fun env2 => ∃ (o' : O) (r : List (Option (U b))) (x7 x11 : Option D), env2 = ⟨[some (.raw w), some (.int m), some (.int b), some (.int full), some (.int kind), some (.int k), some (.lst (fs.map fun u => uD u)), x7, some (.lst (ss.map fun u => uD u)), some (.raw w3), some (.raw w4), x11, x12], [(w, o'), (w4, rwO r), (w3, rsO R)]⟩ ∧ Hnd o' ∧ Dp1 m r) ?_ fun env2 ⟨o', r, x7, x11, e, hH, hr⟩ => ?_
      · refine s_for ?_ (by intro _ _; rfl)
        refine it_rng m2 (by walk_at "yk") ?_ (by intro _; rfl)
        walk_at "ys"
        refine ⟨_, rfl, by omega, fun j env2 => ∃ (o' : O) (r : List (Option (U b))) (x7 x11 : Option D), env2 = ⟨[some (.raw w), some (.int m), some (.int b), some (.int full), some (.int kind), some (.int k), some (.lst (fs.map fun u => uD u)), x7, some (.lst (ss.map fun u => uD u)), some (.raw w3), some (.raw w4), x11, x12], [(w, o'), (w4, rwO r), (w3, rsO R)]⟩ ∧ Hnd o' ∧ Dp1 j r, ?_, fun _ _ _ _ => trivial, ?_, ?_⟩
        · exact ⟨_, [], _, _, rfl, hH, rfl, fun _ h => by simp at h⟩
        · intro j z env2 hz ⟨o', r, x7, x11, e, hH, hr⟩
          subst e
          obtain ⟨hj, rfl⟩ := rng_get hz
          obtain ⟨sj, hsj⟩ : ∃ f, ss[j]? = some f := ⟨_, List.getElem?_eq_getElem (by omega)⟩
          have hf2 := hfu fk (List.mem_of_getElem? hfk)
          have hs2 := hsu sj (List.mem_of_getElem? hsj)
          walk_at "ys"
          refine ⟨_, _, rfl, ixD_nat (z := uD fk) (by rw [List.getElem?_map, hfk]; rfl), ?_⟩
          walk_at "ys"
          refine ⟨_, _, rfl, ixD_nat (z := uD sj) (by rw [List.getElem?_map, hsj]; rfl), ?_⟩
          walk_at "ys"
          walk_at "yn"
          refine ⟨b, fk, sj, true, rfl, rfl, by omega, hf2.uz (by decide), hs2.uz (by decide), ?_⟩
          simp only [if_true]
          walk_at "yd"
          walk_at "yx"
          refine r_cut (fun env2 => ∃ (o' : O) (u : U b), env2 = ⟨[some (.raw w), some (.int m), some (.int b), some (.int full), some (.int kind), some (.int k), some (.lst (fs.map fun u => uD u)), some (.int j), some (.lst (ss.map fun u => uD u)), some (.raw w3), some (.raw w4), some (uD u), x12], [(w, o'), (w4, rwO r), (w3, rsO R)]⟩ ∧ Hnd o' ∧ Hu 4 u) ?_ fun env2 ⟨o', u, e, hH, hu⟩ => ?_
          · walk_at "ys"
            refine ⟨fun h => ?_, fun h => ?_⟩
            · walk_at "ys"
              walk_at "yn1"
              refine ⟨w, o', b, 1, rfl, rfl, hH, by omega, by decide, fun o2 u h2 hu => ?_⟩
              walk_at "yd"
              walk_at "ys"
              exact ⟨_, u, rfl, h2, hu.mono (by decide)⟩
            · walk_at "ys"
              exact ⟨_, fk + sj, rfl, hH, hf2.add hs2⟩
          subst e
          walk_at "ys"
          refine ⟨_, _, _, rfl, .tl .hd, ?_⟩
          refine E.toO ?_
          walk_at "ys"
          walk_at "yn1"
          refine ⟨w, o', 4, rfl, rfl, hH, by decide, by decide, fun o2 t h2 ht => ?_⟩
          walk_at "yd"
          walk_at "ys"
          have fin : ∀ q : Option (U b), (∀ u, q = some u → Hu 6 u) → Dp1 (j + 1) (r ++ [q]) ∧ rwO (r ++ [q]) = .l (((r.map clU).map O.s) ++ [.s (clU q)]) := fun q hq => ⟨hr.snoc hq, by simp [rwO]⟩
          have hlen : (List.map O.s (List.map clU r)).length ≤ 1000000 := by simp only [List.length_map, hr.len]; omega
          refine ⟨fun h => ?_, fun h => ?_⟩
          · walk_at "ys"
            refine ⟨_, _, .tl .hd, hlen, ?_⟩
            walk_at "ys"
            obtain ⟨g1, g2⟩ := fin none (fun _ h => nomatch h)
            exact ⟨o2, r ++ [none], _, _, by rw [g2]; rfl, h2, g1⟩
          · walk_at "ys"
            refine ⟨_, _, .tl .hd, hlen, ?_⟩
            walk_at "ys"
            obtain ⟨g1, g2⟩ := fin (some u) (fun _ h => by cases h; exact hu.mono (by decide))
            exact ⟨o2, r ++ [some u], _, _, by rw [g2]; rfl, h2, g1⟩
        · intro env2 ⟨o', r, x7, x11, e, hH, hr⟩
          rw [rng_len] at hr
          exact ⟨o', r, x7, x11, e, hH, hr⟩
      subst e
      walk_at "ys"
      refine ⟨_, _, _, rfl, .tl (.tl .hd), ?_⟩
      refine eo_mv ?_
      walk_at "ys"
      refine ⟨_, _, _, rfl, .tl .hd, ?_⟩
      refine ⟨_, _, .tl .hd, by simp only [List.length_map]; omega, ?_⟩
      walk_at "ys"
      exact ⟨o', R ++ [r], _, _, _, _, _, by simp only [rsO, List.map_append]; rfl, hH, by simp [hR1], fun r' hr' => by
        rcases List.mem_append.mp hr' with h | h
        · exact hR2 r' h
        · rw [List.mem_singleton.mp h]; exact hr⟩
    · intro env2 ⟨o', R, x5, x7, x10, x11, x12, e, hH, hR1, hR2⟩
      rw [rng_len] at hR1
      exact ⟨o', R, x5, x7, x10, x11, x12, e, hH, hR1, hR2⟩
  subst e
  refine r_cut (fun env2 => ∃ (o' : O) (R : GR b) (x12 : Option D), env2 = ⟨[some (.raw w), some (.int m), some (.int b), some (.int full), some (.int kind), x5, some (.lst (fs.map fun u => uD u)), x7, some (.lst (ss.map fun u => uD u)), some (.raw w3), x10, x11, x12], [(w, o'), (w3, rsO R)]⟩ ∧ Hnd o' ∧ R.length = m ∧ ∀ r ∈ R, Dp1 m r) ?_ fun env2 ⟨o', R, x12, e, hH, hR1, hR2⟩ => ?_
  · walk_at "ys"
    refine ⟨fun h => ?_, fun h => ?_⟩
    · walk_at "ys"
      refine s_for ?_ (by intro _ _; rfl)
      refine it_rng m2 (by walk_at "yk") ?_ (by intro _; rfl)
      walk_at "ys"
      walk_at "yn1"
      refine ⟨w, o', 2, rfl, rfl, hH, by decide, by decide, fun o2 t hH ht => ?_⟩
      walk_at "yd"
      walk_at "ys"
      refine ⟨t + 1, by rw [Int.add_comm]; rfl, by omega, fun k env2 => ∃ (o' : O) (R : GR b) (x12 : Option D), env2 = ⟨[some (.raw w), some (.int m), some (.int b), some (.int full), some (.int kind), x5, some (.lst (fs.map fun u => uD u)), x7, some (.lst (ss.map fun u => uD u)), some (.raw w3), x10, x11, x12], [(w, o'), (w3, rsO R)]⟩ ∧ Hnd o' ∧ R.length = m ∧ ∀ r ∈ R, Dp1 m r, ?_, fun _ _ _ _ => trivial, ?_, ?_⟩
      · exact ⟨_, R, _, rfl, hH, hR1, hR2⟩
      · intro k z env2 hz ⟨o', R, x12, e, hH, hR1, hR2⟩
        subst e
        obtain ⟨hk, rfl⟩ := rng_get hz
        refine g_name (by walk_at "yp") (by walk_at "yk") (by rfl) ?_
        refine r_cons ?_
        walk_at "yst"
        walk_at "yc"
        walk_at "ys"
        walk_at "yn1"
        refine ⟨w, o', b, 2, rfl, rfl, hH, by omega, by decide, fun o2 u hH hu => ?_⟩
        walk_at "yd"
        refine g_ixR ?_ (by intro _ _; rfl)
        refine e_ixB ?_ (by intro _ _; rfl)
        walk_at "ys"
        walk_at "yn1"
        refine ⟨w, o2, m, rfl, rfl, hH, by omega, by omega, fun o3 r1 hH hr1 => ?_⟩
        walk_at "yd"
        have hr1' : r1 < R.length := by omega
        have hRr := hR2 R[r1] (List.getElem_mem hr1')
        refine ⟨_, _, _, r1, rwO R[r1], _, rfl, rfl, .tl .hd, ixN_nat (by rw [List.length_map]; exact hr1'), by rw [List.getElem?_map, List.getElem?_eq_getElem hr1']; rfl, fun v => ?_⟩
        walk_at "ys"
        refine ⟨[_], _ :: _, .swap _ _ _, ?_⟩
        refine ⟨w, o3, m, rfl, rfl, hH, by omega, by omega, fun o4 r2 hH hr2 => ?_⟩
        walk_at "yd"
        refine ⟨v, (R[r1].map clU).map O.s, _, r2, _, rfl, rfl, .tl .hd, ixN_nat (by rw [List.length_map, List.length_map, hRr.len]; exact hr2), ?_⟩
        walk_at "yz"
        refine r_back (w := w3) (.tl .hd) (.tl .hd) (.l (j := r1) (by rw [List.getElem?_set_self (by rw [List.length_map]; exact hr1')])) ?_
        walk_at "ys"
        refine ⟨o4, R.set r1 (R[r1].set r2 (some u)), some (.int k), ?_, hH, by rw [List.length_set]; exact hR1, fun r' hr' => ?_⟩
        · have e1 : ((R[r1].map clU).map O.s).set r2 (O.s (uD u)) = ((R[r1].set r2 (some u)).map clU).map O.s := by
            rw [List.map_set, List.map_set]; rfl
          have e2 : rsO (R.set r1 (R[r1].set r2 (some u))) = .l ((R.map rwO).set r1 (.l (((R[r1].map clU).map O.s).set r2 (O.s (uD u))))) := by
            rw [e1]; exact congrArg O.l (map_set rwO R r1 _).symm
          walk_at "yz"
          rw [e2, List.set_set]
        · rcases List.mem_or_eq_of_mem_set hr' with h | h
          · exact hR2 r' h
          · rw [h]; exact hRr.set (hu.mono (by decide)) r2
      · intro env2 ⟨o', R, x12, e, hH, hR1, hR2⟩
        subst e
        walk_at "ys"
        exact ⟨_, R, _, rfl, hH, hR1, hR2⟩
    · walk_at "ys"
      exact ⟨_, R, _, rfl, hH, hR1, hR2⟩
  subst e
  refine r_frzV (x := "_law_rows_here") (by walk_at "yl") (by walk_at "yp") (by walk_at "yt") ?_
  rw [fz_rsO]
  simp only [lsU]
  walk_at "ys"
  refine e_lcT [("_law_row", 10)] (by kernel_rfl) ?_ (by intro _ _; rfl)
  refine it_lst ?_
  walk_at "ys"
  refine ⟨_, rfl, R.map rwU, by simp, by simp [hR1]; omega, fun _ _ _ => trivial, fun k z y hz hy => ?_, ?_⟩
  · obtain ⟨r, hr, rfl⟩ := map_get hz
    obtain ⟨r', hr', rfl⟩ := map_get hy
    rw [hr] at hr'
    cases hr'
    refine ⟨_, by walk_at "ybd", by simp, ?_⟩
    walk_at "yw"
    walk_at "ys"
    exact cbF_tuple (z := rlU r) rfl ⟨rfl, rfl⟩
  · walk_at "yz"
    walk_at "ys"
    exact cbF_tuple rfl (fin_one .hd (hP o' R hH (.of hR1 hR2)))

set_option maxHeartbeats 4000000
def S_law_evened : Spec := fun zs rs P _ => ∃ (w : V) (o : O) (most : Nat), zs = [.raw w, .int most] ∧ rs = [(w, o)] ∧ Hnd o ∧ 1 ≤ most ∧ most ≤ 10 ∧ ∀ (o' : O) (b m : Nat) (R : GR b), Hnd o' → 1 ≤ b → b ≤ 2 → 1 ≤ m → m ≤ most → Dr m m R → P (.s (.tup [.int b, grU R])) [(w, o')]
theorem f__law_evened {g : Pg} (hd : Dx g "_law_evened" st__law_evened) (f1 : Fn g "_law_draw" 1 S_law_draw) (f2 : Fn g "_law_unit" 2 S_law_unit) (f3 : Fn g "_law_unit_sum" 3 S_law_unit_sum) (f4 : Fn g "_law_rows" 4 S_law_rows) (m1 : g.mg "tuple" = none) (m2 : g.mg "range" = none) : Fn g "_law_evened" 5 S_law_evened := by
  refine fm__law_evened hd (fun zs rs P P2 h => by obtain ⟨i, a, b, rfl, _⟩ := h; rfl) fun zs rs P P2 h => ?_
  obtain ⟨w, o, most, rfl, rfl, hH, hm1, hm, hP⟩ := h
  walk_at "y0"
  walk_at "ys"
  walk_at "yn1"
  refine ⟨w, o, 2, rfl, rfl, hH, by decide, by decide, fun o b0 hH hb0 => ?_⟩
  obtain ⟨b, hb⟩ : ∃ b : Nat, (1 : Int) + (b0 : Int) = (b : Int) ∧ 1 ≤ b ∧ b ≤ 2 := ⟨b0 + 1, by omega, by omega, by omega⟩
  obtain ⟨eb, hb1, hb2⟩ := hb
  walk_at "yd"
  walk_at "ys"
  rw [eb]
  walk_at "yn1"
  refine ⟨w, o, most, rfl, rfl, hH, by omega, by omega, fun o m0 hH hm0 => ?_⟩
  obtain ⟨m, hmm⟩ : ∃ b : Nat, (1 : Int) + (m0 : Int) = (b : Int) ∧ 1 ≤ b ∧ b ≤ most := ⟨m0 + 1, by omega, by omega, by omega⟩
  obtain ⟨em, hm2, hm3⟩ := hmm
  walk_at "yd"
  walk_at "ys"
  rw [em]
  walk_at "yn1"
  refine ⟨w, o, 3, rfl, rfl, hH, by decide, by decide, fun o t hH ht => ?_⟩
  walk_at "yd"
  walk_at "ys"
  refine ⟨fun h => ?_, fun h => ?_⟩
  · walk_at "ys"
    walk_at "yn1"
    refine ⟨w, o, m, b, rfl, rfl, hH, hm2, by omega, by omega, fun o R hH hR => ?_⟩
    walk_at "yd"
    walk_at "ys"
    exact fin_one .hd (hP o b m R hH hb1 hb2 hm2 hm3 hR)
  walk_at "ys"
  walk_at "yn1"
  refine ⟨w, o, 3, rfl, rfl, hH, by decide, by decide, fun o full0 hH hfull => ?_⟩
  walk_at "yd"
  walk_at "ys"
  refine s_setLcD [("_law_p", 5)] (by kernel_rfl) ?_ (by walk_at "yk") (by walk_at "yi") (by intro _ _; rfl) (by rfl) (by rfl)
  refine it_rng m2 (by walk_at "yk") ?_ (by intro _; rfl)
  walk_at "ys"
  refine ⟨_, rfl, by omega, fun rs => ∃ o', rs = [(w, o')] ∧ Hnd o', fun _ y => ∃ u : U b, y = uD u ∧ Hu 2 u, ⟨_, rfl, hH⟩, by simp; omega, fun _ _ _ _ _ => trivial, fun k z rs hz ⟨o', e, hH⟩ => ?_, fun ys rs hl hp ⟨o', e, hH⟩ => ?_⟩
  · subst e
    refine ⟨_, by walk_at "ybd", by simp, ?_⟩
    walk_at "yw"
    walk_at "ys"
    walk_at "yn1"
    refine ⟨w, o', b, 1, rfl, rfl, hH, by omega, by decide, fun o2 u h2 hu => ?_⟩
    exact ⟨⟨u, rfl, hu⟩, o2, rfl, h2⟩
  subst e
  obtain ⟨fs, rfl, hfu⟩ := all_of hp
  have hfl : fs.length = m := by simpa using hl
  walk_at "yx"
  walk_at "ys"
  walk_at "yn1"
  refine ⟨w, o', b, 1, rfl, rfl, hH, by omega, by decide, fun o' rate hH hrate => ?_⟩
  walk_at "yd"
  walk_at "ys"
  intro w3
  walk_at "yx"
  walk_at "yz"
  refine r_sw ?_
  generalize ef : (1 : Int) + (full0 : Int) = full
  refine r_cut (fun env2 => ∃ (o' : O) (R : GR b) (x5 x9 x10 x11 : Option D), env2 = ⟨[some (.raw w), some (.int most), some (.int b), some (.int m), some (.int full), x5, some (.lst (fs.map fun u => uD u)), some (uD rate), some (.raw w3), x9, x10, x11], [(w, o'), (w3, rsO R)]⟩ ∧ Hnd o' ∧ R.length = m ∧ ∀ r ∈ R, Dp1 m r) ?_ fun env2 ⟨o', R, x5, x9, x10, x11, e, hH, hR1, hR2⟩ => ?_
  · refine s_for ?_ (by intro _ _; rfl)
    refine it_rng m2 (by walk_at "yk") ?_ (by intro _; rfl)
    walk_at "ys"
    refine ⟨_, rfl, by omega, fun k env2 => ∃ (o' : O) (R : GR b) (x5 x9 x10 x11 : Option D), env2 = ⟨[some (.raw w), some (.int most), some (.int b), some (.int m), some (.int full), x5, some (.lst (fs.map fun u => uD u)), some (uD rate), some (.raw w3), x9, x10, x11], [(w, o'), (w3, rsO R)]⟩ ∧ Hnd o' ∧ R.length = k ∧ ∀ r ∈ R, Dp1 m r, ?_, fun _ _ _ _ => trivial, ?_, ?_⟩
    · exact ⟨_, [], _, _, _, _, rfl, hH, rfl, fun _ h => by simp at h⟩
    · intro k z env2 hz ⟨o', R, x5, x9, x10, x11, e, hH, hR1, hR2⟩
      subst e
      obtain ⟨hk, rfl⟩ := rng_get hz
      obtain ⟨fk, hfk⟩ : ∃ f, fs[k]? = some f := ⟨_, List.getElem?_eq_getElem (by omega)⟩
      walk_at "ys"
      intro w4
      walk_at "yx"
      walk_at "yz"
      refine r_sw ?_
      refine r_cut (fun env2 => ∃ (o' : O) (r : List (Option (U b))) (x10 x11 : Option D), env2 = ⟨[some (.raw w), some (.int most), some (.int b), some (.int m), some (.int full), some (.int k), some (.lst (fs.map fun u => uD u)), some (uD rate), some (.raw w3), some (.raw w4), x10, x11], [(w, o'), (w4, rwO r), (w3, rsO R)]⟩ ∧ Hnd o' ∧ Dp1 m r) ?_ fun env2 ⟨o', r, x10, x11, e, hH, hr⟩ => ?_
      · refine s_for ?_ (by intro _ _; rfl)
        refine it_rng m2 (by walk_at "yk") ?_ (by intro _; rfl)
        walk_at "ys"
        refine ⟨_, rfl, by omega, fun j env2 => ∃ (o' : O) (r : List (Option (U b))) (x10 x11 : Option D), env2 = ⟨[some (.raw w), some (.int most), some (.int b), some (.int m), some (.int full), some (.int k), some (.lst (fs.map fun u => uD u)), some (uD rate), some (.raw w3), some (.raw w4), x10, x11], [(w, o'), (w4, rwO r), (w3, rsO R)]⟩ ∧ Hnd o' ∧ Dp1 j r, ?_, fun _ _ _ _ => trivial, ?_, ?_⟩
        · exact ⟨_, [], _, _, rfl, hH, rfl, fun _ h => by simp at h⟩
        · intro j z env2 hz ⟨o', r, x10, x11, e, hH, hr⟩
          subst e
          obtain ⟨hj, rfl⟩ := rng_get hz
          obtain ⟨fj, hfj⟩ : ∃ f, fs[j]? = some f := ⟨_, List.getElem?_eq_getElem (by omega)⟩
          have h1 := hfu fk (List.mem_of_getElem? hfk)
          have h2 := hfu fj (List.mem_of_getElem? hfj)
          have hs1 := h2.sub h1
          have hs2 := hs1.add hrate
          walk_at "ys"
          refine ⟨_, _, rfl, ixD_nat (z := uD fj) (by rw [List.getElem?_map, hfj]; rfl), ?_⟩
          walk_at "ys"
          refine ⟨_, _, rfl, ixD_nat (z := uD fk) (by rw [List.getElem?_map, hfk]; rfl), ?_⟩
          walk_at "ys"
          walk_at "yn"
          refine ⟨b, fj, fk, false, rfl, rfl, by omega, h2.uz (by decide), h1.uz (by decide), ?_⟩
          simp only [Bool.false_eq_true, if_false]
          walk_at "yd"
          walk_at "ys"
          walk_at "yn"
          refine ⟨b, fj - fk, rate, true, rfl, rfl, by omega, hs1.uz (by decide), hrate.uz (by decide), ?_⟩
          simp only [if_true]
          walk_at "yd"
          walk_at "ys"
          refine ⟨_, _, _, rfl, .tl .hd, ?_⟩
          refine E.toO ?_
          walk_at "ys"
          walk_at "yn1"
          refine ⟨w, o', 4, rfl, rfl, hH, by decide, by decide, fun o2 t h2 ht => ?_⟩
          walk_at "yd"
          walk_at "ys"
          have fin : ∀ q : Option (U b), (∀ u, q = some u → Hu 6 u) → Dp1 (j + 1) (r ++ [q]) ∧ rwO (r ++ [q]) = .l (((r.map clU).map O.s) ++ [.s (clU q)]) := fun q hq => ⟨hr.snoc hq, by simp [rwO]⟩
          have hlen : (List.map O.s (List.map clU r)).length ≤ 1000000 := by simp only [List.length_map, hr.len]; omega
          refine ⟨fun h => ?_, fun h => ?_⟩
          · walk_at "ys"
            refine ⟨_, _, .tl .hd, hlen, ?_⟩
            walk_at "ys"
            obtain ⟨g1, g2⟩ := fin none (fun _ h => nomatch h)
            exact ⟨o2, r ++ [none], _, _, by rw [g2]; rfl, h2, g1⟩
          · walk_at "ys"
            refine ⟨_, _, .tl .hd, hlen, ?_⟩
            walk_at "ys"
            obtain ⟨g1, g2⟩ := fin (some (fj - fk + rate)) (fun _ h => by cases h; exact hs2.mono (by decide))
            exact ⟨o2, r ++ [some (fj - fk + rate)], _, _, by rw [g2]; rfl, h2, g1⟩
        · intro env2 ⟨o', r, x10, x11, e, hH, hr⟩
          rw [rng_len] at hr
          exact ⟨o', r, x10, x11, e, hH, hr⟩
      subst e
      walk_at "ys"
      refine ⟨_, _, _, rfl, .tl (.tl .hd), ?_⟩
      refine eo_mv ?_
      walk_at "ys"
      refine ⟨_, _, _, rfl, .tl .hd, ?_⟩
      refine ⟨_, _, .tl .hd, by simp only [List.length_map]; omega, ?_⟩
      walk_at "ys"
      exact ⟨o', R ++ [r], _, _, _, _, by simp only [rsO, List.map_append]; rfl, hH, by simp [hR1], fun r' hr' => by
        rcases List.mem_append.mp hr' with h | h
        · exact hR2 r' h
        · rw [List.mem_singleton.mp h]; exact hr⟩
    · intro env2 ⟨o', R, x5, x9, x10, x11, e, hH, hR1, hR2⟩
      rw [rng_len] at hR1
      exact ⟨o', R, x5, x9, x10, x11, e, hH, hR1, hR2⟩
  subst e
  refine r_cut (fun env2 => ∃ (o' : O) (R : GR b), env2 = ⟨[some (.raw w), some (.int most), some (.int b), some (.int m), some (.int full), x5, some (.lst (fs.map fun u => uD u)), some (uD rate), some (.raw w3), x9, x10, x11], [(w, o'), (w3, rsO R)]⟩ ∧ Hnd o' ∧ R.length = m ∧ ∀ r ∈ R, Dp1 m r) ?_ fun env2 ⟨o', R, e, hH, hR1, hR2⟩ => ?_
  · walk_at "ys"
    walk_at "yn1"
    refine ⟨w, o', 3, rfl, rfl, hH, by decide, by decide, fun o' t hH ht => ?_⟩
    walk_at "yd"
    walk_at "ys"
    refine ⟨fun h => ?_, fun h => ?_⟩
    · refine r_cons ?_
      walk_at "yst"
      walk_at "yc"
      walk_at "ys"
      walk_at "yn1"
      refine ⟨w, o', b, 2, rfl, rfl, hH, by omega, by decide, fun o2 u hH hu => ?_⟩
      walk_at "yd"
      refine g_ixR ?_ (by intro _ _; rfl)
      refine e_ixB ?_ (by intro _ _; rfl)
      walk_at "ys"
      walk_at "yn1"
      refine ⟨w, o2, m, rfl, rfl, hH, by omega, by omega, fun o3 r1 hH hr1 => ?_⟩
      walk_at "yd"
      have hr1' : r1 < R.length := by omega
      have hRr := hR2 R[r1] (List.getElem_mem hr1')
      refine ⟨_, _, _, r1, rwO R[r1], _, rfl, rfl, .tl .hd, ixN_nat (by rw [List.length_map]; exact hr1'), by rw [List.getElem?_map, List.getElem?_eq_getElem hr1']; rfl, fun v => ?_⟩
      walk_at "ys"
      refine ⟨[_], _ :: _, .swap _ _ _, ?_⟩
      refine ⟨w, o3, m, rfl, rfl, hH, by omega, by omega, fun o4 r2 hH hr2 => ?_⟩
      walk_at "yd"
      refine ⟨v, (R[r1].map clU).map O.s, _, r2, _, rfl, rfl, .tl .hd, ixN_nat (by rw [List.length_map, List.length_map, hRr.len]; exact hr2), ?_⟩
      walk_at "yz"
      refine r_back (w := w3) (.tl .hd) (.tl .hd) (.l (j := r1) (by rw [List.getElem?_set_self (by rw [List.length_map]; exact hr1')])) ?_
      walk_at "ys"
      refine ⟨o4, R.set r1 (R[r1].set r2 (some u)), ?_, hH, by rw [List.length_set]; exact hR1, fun r' hr' => ?_⟩
      · have e1 : ((R[r1].map clU).map O.s).set r2 (O.s (uD u)) = ((R[r1].set r2 (some u)).map clU).map O.s := by
          rw [List.map_set, List.map_set]; rfl
        have e2 : rsO (R.set r1 (R[r1].set r2 (some u))) = .l ((R.map rwO).set r1 (.l (((R[r1].map clU).map O.s).set r2 (O.s (uD u))))) := by
          rw [e1]; exact congrArg O.l (map_set rwO R r1 _).symm
        walk_at "yz"
        rw [e2, List.set_set]
      · rcases List.mem_or_eq_of_mem_set hr' with h | h
        · exact hR2 r' h
        · rw [h]; exact hRr.set (hu.mono (by decide)) r2
    · walk_at "ys"
      exact ⟨_, R, rfl, hH, hR1, hR2⟩
  subst e
  refine r_frzV (x := "_law_rows_here") (by walk_at "yl") (by walk_at "yp") (by walk_at "yt") ?_
  rw [fz_rsO]
  simp only [lsU]
  walk_at "ys"
  refine e_lcT [("_law_row", 9)] (by kernel_rfl) ?_ (by intro _ _; rfl)
  refine it_lst ?_
  walk_at "ys"
  refine ⟨_, rfl, R.map rwU, by simp, by simp [hR1]; omega, fun _ _ _ => trivial, fun k z y hz hy => ?_, ?_⟩
  · obtain ⟨r, hr, rfl⟩ := map_get hz
    obtain ⟨r', hr', rfl⟩ := map_get hy
    rw [hr] at hr'
    cases hr'
    refine ⟨_, by walk_at "ybd", by simp, ?_⟩
    walk_at "yw"
    walk_at "ys"
    exact cbF_tuple (z := rlU r) rfl ⟨rfl, rfl⟩
  · walk_at "yz"
    walk_at "ys"
    refine cbF_tuple rfl ?_
    walk_at "ys"
    exact fin_one .hd (hP o' b m R hH hb1 hb2 hm2 hm3 (.of hR1 hR2))

set_option maxHeartbeats 2000000
/-! ### walks of places, layers of pairs -/
section
variable {b : Nat}
inductive Wlk (R : GR b) (m : Nat) : Nat → Nat → List Nat → Nat → U b → Prop
  | one {p : Nat} : p < m → Wlk R m p 0 [p] p 0
  | snoc {a t p q : Nat} {l : List Nat} {w c : U b} : Wlk R m a t l p w → tie R p q = some c → Wlk R m a (t + 1) (l ++ [q]) q (w + c)
inductive AhdN (R : GR b) (m : Nat) : Nat → Pr → U b → Prop
  | base {p : Nat} : p < m → AhdN R m 0 (p, p) 0
  | step {t : Nat} {x y : Pr} {w d : U b} : AhdN R m t x w → Led R x y d → AhdN R m (t + 1) y (w + d)
theorem AhdN.ahd {R : GR b} {m t : Nat} {k : Pr} {w : U b} (h : AhdN R m t k w) : Ahd R m k w := by
  induction h with
  | base h => exact .base h
  | step _ l ih => exact .step ih l
theorem Ahd.num {R : GR b} {m : Nat} {k : Pr} {w : U b} (h : Ahd R m k w) : ∃ t, AhdN R m t k w := by
  induction h with
  | base h => exact ⟨0, .base h⟩
  | step _ l ih => exact ⟨_, .step ih.choose_spec l⟩
theorem AhdN.join {R : GR b} {m t u : Nat} {k : Pr} {w v : U b} (s : Sq R m) (h : AhdN R m t k w) (g : AhdN (turned R) m u k v) : ∃ z, AhdN R m (t + u) (z, z) (w + v) := by
  induction g generalizing t w with
  | base h' => exact ⟨_, by have e : w + (0 : U b) = w := by grind
                            rw [e]; exact h⟩
  | step g l ih =>
    rename_i u x y v d
    cases l with
    | mk h1 h2 =>
      rename_i p q p' q' a c
      rw [tie_turned s] at h1 h2
      obtain ⟨z, hz⟩ := ih (.step h (.mk h1 h2))
      refine ⟨z, ?_⟩
      have e : w + (v + (a - c)) = w + (a - c) + v := by grind
      rw [e, show t + (u + 1) = t + 1 + u by omega]
      exact hz
theorem AhdN.dist {R : GR b} {m : Nat} {k : Pr} {w : U b} (h : Ahd R m k w) : ∃ t, (∃ w, AhdN R m t k w) ∧ ∀ t' w, AhdN R m t' k w → t ≤ t' := by
  obtain ⟨t, ht⟩ := h.num
  have key : ∀ n t w, t ≤ n → AhdN R m t k w → ∃ t, (∃ w, AhdN R m t k w) ∧ ∀ t' w, AhdN R m t' k w → t ≤ t' := by
    intro n
    induction n with
    | zero => intro t w hn h; exact ⟨t, ⟨w, h⟩, fun t' _ _ => by omega⟩
    | succ n ih =>
      intro t w hn h
      by_cases hx : ∃ t' w', AhdN R m t' k w' ∧ t' < t
      · obtain ⟨t', w', h', hlt⟩ := hx
        exact ih t' w' (by omega) h'
      · exact ⟨t, ⟨w, h⟩, fun t' w' h' => by
          rcases Nat.lt_or_ge t' t with hl | hl
          · exact absurd ⟨t', w', h', hl⟩ hx
          · exact hl⟩
  exact key t t w (Nat.le_refl _) ht
/-- a pair at a least distance has a chain of pairs at all lesser ones -/
theorem AhdN.chain {R : GR b} {m : Nat} (s : Sq R m) : ∀ (t : Nat) (k : Pr) (w : U b), AhdN R m t k w → (∀ t' w, AhdN R m t' k w → t ≤ t') → ∃ l : List Pr, l.length = t + 1 ∧ l.Nodup ∧ (∀ x ∈ l, x.1 < m ∧ x.2 < m) ∧ (∀ x ∈ l, ∃ i, i ≤ t ∧ (∃ w, AhdN R m i x w) ∧ ∀ t' w, AhdN R m t' x w → i ≤ t') := by
  intro t
  induction t with
  | zero =>
    intro k w h hm
    exact ⟨[k], rfl, by simp, fun x hx => by rw [List.mem_singleton.mp hx]; exact h.ahd.lt s, fun x hx => by rw [List.mem_singleton.mp hx]; exact ⟨0, by omega, ⟨w, h⟩, hm⟩⟩
  | succ t ih =>
    intro k w h hm
    cases h with
    | step h l =>
      rename_i x w d
      obtain ⟨L, h1, h2, h3, h4⟩ := ih x w h (fun t' w' h' => by have := hm _ _ (h'.step l); omega)
      refine ⟨k :: L, by simp [h1], List.nodup_cons.mpr ⟨fun hk => ?_, h2⟩, fun y hy => ?_, fun y hy => ?_⟩
      · obtain ⟨i, hi, ⟨w', hw'⟩, _⟩ := h4 k hk
        have := hm _ _ hw'
        omega
      · rcases List.mem_cons.mp hy with rfl | hy
        · exact (l.lt s).2
        · exact h3 y hy
      · rcases List.mem_cons.mp hy with rfl | hy
        · exact ⟨t + 1, Nat.le_refl _, ⟨_, h.step l⟩, hm⟩
        · obtain ⟨i, hi, hw⟩ := h4 y hy
          exact ⟨i, by omega, hw⟩
theorem Ahd.near {R : GR b} {m : Nat} {k : Pr} {w : U b} (s : Sq R m) (h : Ahd R m k w) : ∃ t w', AhdN R m t k w' ∧ t + 1 ≤ m * m := by
  obtain ⟨t, ⟨w', h1⟩, h2⟩ := AhdN.dist h
  obtain ⟨l, e, nd, lt, _⟩ := AhdN.chain s t k w' h1 h2
  refine ⟨t, w', h1, ?_⟩
  rw [← e]
  have inj : (l.map fun x : Pr => x.1 * m + x.2).Nodup := by
    refine List.pairwise_map.mpr ?_
    refine List.Pairwise.imp_of_mem (fun {x y} hx hy hn e => hn ?_) nd
    have h1 := lt x hx
    have h2 := lt y hy
    have e1 : x.1 = y.1 := by
      have q1 : (x.1 * m + x.2) / m = x.1 := by rw [Nat.mul_comm, Nat.mul_add_div (by omega), Nat.div_eq_of_lt h1.2]; omega
      have q2 : (y.1 * m + y.2) / m = y.1 := by rw [Nat.mul_comm, Nat.mul_add_div (by omega), Nat.div_eq_of_lt h2.2]; omega
      rw [← q1, e, q2]
    exact Prod.ext e1 (by rw [e1] at e; omega)
  have := nodup_le inj (n := m * m) (fun x hx => by
    obtain ⟨y, hy, rfl⟩ := List.mem_map.mp hx
    have h1 := lt y hy
    calc y.1 * m + y.2 < y.1 * m + m := by omega
      _ = (y.1 + 1) * m := by rw [Nat.add_mul]; omega
      _ ≤ m * m := Nat.mul_le_mul_right _ h1.1)
  simpa using this
/-- two walks of equally many ties with the same ends that weigh unlike -/
def UnAt (R : GR b) (m t : Nat) : Prop := ∃ z w, AhdN R m t (z, z) w ∧ w ≠ 0
theorem UnAt.not_uniq {R : GR b} {m t : Nat} (s : Sq R m) (h : UnAt R m t) : ¬ Uniq R m := by
  obtain ⟨z, w, h1, h2⟩ := h
  intro u
  have hz := h1.ahd.lt s
  exact h2 (u (z, z) w 0 (.base hz.1) h1.ahd (.base hz.1))
theorem UnAt.of {R : GR b} {m : Nat} (s : Sq R m) (h : ¬ Uniq R m) : ∃ t, t + 1 ≤ 2 * (m * m) ∧ UnAt R m t := by
  refine Classical.byContradiction fun hn => h ?_
  have hn : ∀ t z w, t + 1 ≤ 2 * (m * m) → AhdN R m t (z, z) w → w = 0 := fun t z w h1 h2 => Classical.byContradiction fun h3 => hn ⟨t, h1, z, w, h2, h3⟩
  -- all walks to a pair from which one meets have the value of each near one
  have key : ∀ (k : Pr) (w : U b), Ahd R m k w → Mtg R m k → ∀ t w', AhdN R m t k w' → t + 1 ≤ m * m → w = w' := by
    intro k w hA
    induction hA with
    | base hp =>
      rename_i p
      intro _ t w' h1 h2
      exact (hn t p w' (by omega) h1).symm
    | step hA l ih =>
      rename_i x y w d
      intro hM t w' h1 h2
      obtain ⟨t1, w1, h3, h4⟩ := hA.near s
      obtain rfl := ih (.step l hM) t1 w1 h3 h4
      obtain ⟨_, hv⟩ := hM.turned s
      obtain ⟨u, v, h5, h6⟩ := hv.near (turned_sq s)
      obtain ⟨z1, h7⟩ := (h3.step l).join s h5
      obtain ⟨z2, h8⟩ := h1.join s h5
      have e1 := hn _ _ _ (by omega) h7
      have e2 := hn _ _ _ (by omega) h8
      grind
  intro k w w' hM h1 h2
  obtain ⟨t, w0, h3, h4⟩ := h1.near s
  rw [key k w h1 hM t w0 h3 h4, key k w' h2 hM t w0 h3 h4]
theorem Wlk.start {R : GR b} {m a t p : Nat} {l : List Nat} {w : U b} (s : Sq R m) (h : Wlk R m a t l p w) : a < m ∧ p < m ∧ l.length = t + 1 ∧ l.head? = some a ∧ l.getLast? = some p ∧ ∀ x ∈ l, x < m := by
  induction h with
  | one h => exact ⟨h, h, rfl, rfl, rfl, fun x hx => by rw [List.mem_singleton.mp hx]; exact h⟩
  | snoc h e ih =>
    obtain ⟨h1, h2, h3, h4, h5, h6⟩ := ih
    refine ⟨h1, (tie_lt s e).2, by simp [h3], ?_, by simp, fun x hx => ?_⟩
    · rw [List.head?_append, h4]; rfl
    · rcases List.mem_append.mp hx with hx | hx
      · exact h6 x hx
      · rw [List.mem_singleton.mp hx]; exact (tie_lt s e).2
theorem Wlk.bt {R : GR b} {m a t p n : Nat} {l : List Nat} {w : U b} (h : Wlk R m a t l p w) (ht : Tb R n) : Bt (n * t) w := by
  induction h with
  | one h => exact .zero
  | snoc h e ih => exact (ih.add (ht _ _ _ e)).mono (by rw [Nat.mul_succ]; exact Nat.le_refl _)
/-- marks: difference, first row, second row -/
abbrev Mk (b : Nat) := U b × List Nat × List Nat
def MkOk (R : GR b) (m t : Nat) (k : Pr) (x : Mk b) : Prop := ∃ a w v, Wlk R m a t x.2.1 k.1 w ∧ Wlk R m a t x.2.2 k.2 v ∧ x.1 = w - v
theorem MkOk.ahd {R : GR b} {m t : Nat} {k : Pr} {x : Mk b} (h : MkOk R m t k x) : AhdN R m t k x.1 := by
  obtain ⟨a, w, v, h1, h2, e⟩ := h
  rw [e]
  clear e
  obtain ⟨k1, k2⟩ := k
  obtain ⟨x1, x2, x3⟩ := x
  simp only at h1 h2
  clear x1
  induction t generalizing x2 x3 k1 k2 w v with
  | zero =>
    cases h1; cases h2
    have e : (0 : U b) - 0 = 0 := by grind
    rw [e]; exact .base ‹_›
  | succ t ih =>
    cases h1 with
    | snoc h1 e1 =>
      cases h2 with
      | snoc h2 e2 =>
        rename_i p1 l1 w1 c1 p2 l2 w2 c2
        have e : w1 + c1 - (w2 + c2) = (w1 - w2) + (c1 - c2) := by grind
        rw [e]
        exact .step (ih _ _ _ _ _ _ h1 h2) (.mk e1 e2)
theorem AhdN.mk {R : GR b} {m t : Nat} {k : Pr} {w : U b} (h : AhdN R m t k w) : ∃ x : Mk b, x.1 = w ∧ MkOk R m t k x := by
  induction h with
  | base h => exact ⟨(0, [_], [_]), rfl, _, 0, 0, .one h, .one h, by grind⟩
  | step h l ih =>
    obtain ⟨⟨x1, x2, x3⟩, rfl, a, w, v, h1, h2, e⟩ := ih
    cases l with
    | mk e1 e2 =>
      rename_i p q p' q' c d
      exact ⟨(x1 + (c - d), x2 ++ [p'], x3 ++ [q']), rfl, a, w + c, v + d, h1.snoc e1, h2.snoc e2, by simp only at e ⊢; grind⟩
theorem MkOk.bt {R : GR b} {m t n : Nat} {k : Pr} {x : Mk b} (h : MkOk R m t k x) (ht : Tb R n) : Bt (2 * (n * t)) x.1 := by
  obtain ⟨a, w, v, h1, h2, e⟩ := h
  rw [e]
  exact ((h1.bt ht).sub (h2.bt ht)).mono (by omega)
def MkOk.next {R : GR b} {m t : Nat} {k y : Pr} {d : U b} {x : Mk b} (h : MkOk R m t k x) (l : Led R k y d) : MkOk R m (t + 1) y (x.1 + d, x.2.1 ++ [y.1], x.2.2 ++ [y.2]) := by
  obtain ⟨a, w, v, h1, h2, e⟩ := h
  cases l with
  | mk e1 e2 => exact ⟨a, _, _, h1.snoc e1, h2.snoc e2, by simp only at e ⊢; rw [e]; grind⟩
/-- a mark put where there is room -/
def putU {α : Type} (l : List (U b × α)) (x : U b × α) : List (U b × α) := match l with
  | [] => [x]
  | [y] => if y.1 = x.1 then [y] else [y, x]
  | l => l
theorem putU_cov {α : Type} (l : List (U b × α)) (x : U b × α) (h : l.length ≤ 2) : (putU l x).length ≤ 2 ∧ 0 < (putU l x).length ∧ (∀ y ∈ putU l x, y ∈ l ∨ y = x) ∧ (∀ y ∈ l, y ∈ putU l x) ∧ (x.1 ∈ (putU l x).map (·.1) ∨ (putU l x).length = 2) ∧ ((l.map (·.1)).Nodup → ((putU l x).map (·.1)).Nodup) := by
  match l, h with
  | [], _ => simp [putU]
  | [y], _ =>
    by_cases e : y.1 = x.1
    · simp [putU, e]
    · simp [putU, e]
  | [y, z], _ => exact ⟨by simp [putU], by simp [putU], fun u hu => .inl hu, fun u hu => hu, .inr rfl, fun hn => hn⟩
  | _ :: _ :: _ :: _, h => simp at h
/-- a value is among the marks of a pair, or these are two -/
def Cov (ks : List Pr) (ls : List (List (Mk b))) (y : Pr) (v : U b) : Prop := ∃ (i : Nat) (l : List (Mk b)), ks[i]? = some y ∧ ls[i]? = some l ∧ (v ∈ l.map (·.1) ∨ l.length = 2)
structure LayW (R : GR b) (m t : Nat) (ks : List Pr) (ls : List (List (Mk b))) : Prop where
  len : ks.length = ls.length
  nodup : ks.Nodup
  ok : ∀ (i : Nat) (k : Pr) (l : List (Mk b)), ks[i]? = some k → ls[i]? = some l → ∀ x ∈ l, MkOk R m t k x
  two : ∀ l ∈ ls, l.length ≤ 2 ∧ (l.map (·.1)).Nodup
  ltk : ∀ k ∈ ks, k.1 < m ∧ k.2 < m
structure Lay (R : GR b) (m t : Nat) (ks : List Pr) (ls : List (List (Mk b))) : Prop extends LayW R m t ks ls where
  full : ∀ k w, AhdN R m t k w → Cov ks ls k w
theorem Lay.start {R : GR b} {m : Nat} : Lay R m 0 ((List.range m).map fun p => (p, p)) ((List.range m).map fun p => [((0 : U b), [p], [p])]) where
  len := by simp
  nodup := nodup_map (fun x y e => by simpa using e) List.nodup_range
  ok i k l h1 h2 x hx := by
    obtain ⟨p, hp, rfl⟩ := map_get h1
    obtain ⟨p', hp', rfl⟩ := map_get h2
    rw [hp] at hp'
    cases hp'
    rw [List.mem_singleton.mp hx]
    have hlt : p < m := by simpa using List.mem_of_getElem? hp
    exact ⟨p, 0, 0, .one hlt, .one hlt, by simp only; grind⟩
  two l hl := by
    obtain ⟨p, hp, rfl⟩ := List.mem_map.mp hl
    simp
  ltk k hk := by
    obtain ⟨p, hp, rfl⟩ := List.mem_map.mp hk
    simpa using hp
  full k w h := by
    cases h with
    | base h =>
      rename_i p
      exact ⟨p, [((0 : U b), [p], [p])], by simp [h], by simp [h], .inl (by simp)⟩
theorem Cov.uniq {R : GR b} {m t : Nat} {ks : List Pr} {ls : List (List (Mk b))} {y : Pr} {v v' : U b} (hL : LayW R m t ks ls) (h : Cov ks ls y v) (h' : Cov ks ls y v') (hn : v ≠ v') : ∃ (i : Nat) (l : List (Mk b)), ks[i]? = some y ∧ ls[i]? = some l ∧ l.length = 2 := by
  obtain ⟨i, l, h1, h2, h3⟩ := h
  obtain ⟨i', l', h1', h2', h3'⟩ := h'
  obtain rfl := nodup_ix hL.nodup h1 h1'
  rw [h2] at h2'
  cases h2'
  refine ⟨i, l, h1, h2, ?_⟩
  have hl := (hL.two l (List.mem_of_getElem? h2)).1
  rcases h3 with h3 | h3
  · rcases h3' with h3' | h3'
    · match l, hl, h3, h3' with
      | [], _, h3, _ => simp at h3
      | [x], _, h3, h3' =>
        simp at h3 h3'
        exact absurd (h3.trans h3'.symm) hn
      | [_, _], _, _, _ => rfl
      | _ :: _ :: _ :: _, hl, _, _ => simp at hl
    · exact h3'
  · exact h3
/-- the next layer is full once each mark of the layer ahead has been gone on from -/
theorem Lay.next {R : GR b} {m t : Nat} {ks ks' : List Pr} {ls ls' : List (List (Mk b))} (hL : Lay R m t ks ls) (hW : LayW R m (t + 1) ks' ls') (hc : ∀ (i : Nat) (k : Pr) (l : List (Mk b)), ks[i]? = some k → ls[i]? = some l → ∀ x ∈ l, ∀ y d, Led R k y d → Cov ks' ls' y (x.1 + d)) : Lay R m (t + 1) ks' ls' where
  toLayW := hW
  full y w h := by
    cases h with
    | step h l =>
      rename_i k w d
      obtain ⟨i, L, h1, h2, h3⟩ := hL.full k w h
      rcases h3 with h3 | h3
      · obtain ⟨x, hx, rfl⟩ := List.mem_map.mp h3
        exact hc i k L h1 h2 x hx y d l
      · have hn := (hL.two L (List.mem_of_getElem? h2)).2
        match L, h3, hn with
        | [x, x'], _, hn =>
          have hxx : x.1 ≠ x'.1 := by
            intro e
            simp [e] at hn
          obtain ⟨j, L', q1, q2, q3⟩ := (hc i k _ h1 h2 x (by simp) y d l).uniq hW (hc i k _ h1 h2 x' (by simp) y d l) (by intro e; apply hxx; grind)
          exact ⟨j, L', q1, q2, .inr q3⟩
/-- no unlike mark at a place: no unlike walks of so many ties -/
theorem Lay.none {R : GR b} {m t : Nat} {ks : List Pr} {ls : List (List (Mk b))} (s : Sq R m) (hL : Lay R m t ks ls) (h : ∀ (i : Nat) (z : Nat) (l : List (Mk b)), ks[i]? = some (z, z) → ls[i]? = some l → ∀ x ∈ l, x.1 = 0) : ¬ UnAt R m t := by
  intro ⟨z, w, h1, h2⟩
  obtain ⟨i, l, q1, q2, q3⟩ := hL.full (z, z) w h1
  have hz := h i z l q1 q2
  rcases q3 with q3 | q3
  · obtain ⟨x, hx, rfl⟩ := List.mem_map.mp q3
    exact h2 (hz x hx)
  · have hn := (hL.two l (List.mem_of_getElem? q2)).2
    match l, q3, hn, hz with
    | [x, x'], _, hn, hz =>
      have e1 := hz x (by simp)
      have e2 := hz x' (by simp)
      simp [e1, e2] at hn
end

set_option maxHeartbeats 2000000
/-! marks put -/
def mkT {b : Nat} (x : U b × List D) : D := .tup (uD x.1 :: x.2)
def mkO {b : Nat} (x : U b × List D) : O := .s (mkT x)
theorem ixD_0 {z : D} {l : List D} : ixD (.tup (z :: l)) 0 = some z := ixD_nat (k := 0) rfl
def S_put_unlike : Spec := fun zs rs P _ => ∃ (w : V) (b : Nat) (l : List (U b × List D)) (x : U b × List D), zs = [.raw w, mkT x] ∧ rs = [(w, .l (l.map mkO))] ∧ l.length ≤ 2 ∧ P (.s .non) [(w, .l ((putU l x).map mkO))]
theorem f_put_unlike {g : Pg} (hd : Dx g "put_unlike" st_put_unlike) (m1 : g.mg "len" = none) : Fn g "put_unlike" 1 S_put_unlike := by
  refine fm_put_unlike hd (fun zs rs P P2 h => by obtain ⟨w, b, l, x, rfl, _⟩ := h; rfl) fun zs rs P P2 h => ?_
  obtain ⟨w, b, l, x, rfl, rfl, hl, hP⟩ := h
  walk_at "y0"
  match l, hl, hP with
  | [], _, hP =>
    simp only [mkT, mkO, List.map_nil] at hP ⊢
    walk_at "ys"
    refine E.toO ?_
    walk_at "ys"
    refine ⟨_, _, .hd, by simp, ?_⟩
    walk_at "ys"
    refine fin_one .hd ?_
    simpa [putU, mkT, mkO] using hP
  | [y], _, hP =>
    simp only [mkT, mkO, List.map_nil, List.map_cons] at hP ⊢
    walk_at "ys"
    refine ⟨_, _, rfl, ixD_0, ?_⟩
    walk_at "ys"
    refine ⟨_, _, rfl, ixD_0, ?_⟩
    walk_at "ys"
    refine op_neU ?_
    by_cases e : y.1 = x.1
    · rw [decide_eq_true e]
      walk_at "ys"
      refine fin_one .hd ?_
      simpa [putU, mkT, mkO, e] using hP
    · rw [decide_eq_false e]
      walk_at "ys"
      refine E.toO ?_
      walk_at "ys"
      refine ⟨_, _, .hd, by simp, ?_⟩
      walk_at "ys"
      refine fin_one .hd ?_
      simpa [putU, mkT, mkO, e] using hP
  | [y, z], _, hP =>
    simp only [mkT, mkO, List.map_nil, List.map_cons] at hP ⊢
    walk_at "ys"
    refine fin_one .hd ?_
    simpa [putU, mkT, mkO] using hP
  | _ :: _ :: _ :: _, h, _ => simp at h

set_option maxHeartbeats 4000000
/-! layers -/
def plD (l : List Nat) : D := .tup (l.map fun i => D.int (i : Nat))
def mkR {b : Nat} (x : Mk b) : U b × List D := (x.1, [plD x.2.1, plD x.2.2])
def fmO {b : Nat} (l : List (Mk b)) : O := .s (.lst (l.map fun x => mkT (mkR x)))
def lmO {b : Nat} (l : List (Mk b)) : O := .l (l.map fun x => mkO (mkR x))
theorem fzs_lmO {b : Nat} : ∀ ls : List (List (Mk b)), (O.fzs (ls.map lmO)).map O.s = ls.map fmO
  | [] => by simp [O.fzs]
  | l :: ls => by
    have ih := fzs_lmO ls
    have e : O.fzs (l.map fun x => mkO (mkR x)) = l.map fun x => mkT (mkR x) := by
      clear ih
      induction l with
      | nil => simp [O.fzs]
      | cons x l ih => simp only [List.map_cons, mkO, O.fzs, O.fz] at ih ⊢; rw [ih]
    simp only [List.map_cons, O.fzs, lmO, O.fz] at ih ⊢
    rw [ih, e]; rfl
theorem putU_mkR {b : Nat} (l : List (Mk b)) (x : Mk b) : putU (l.map mkR) (mkR x) = (putU l x).map mkR := by
  match l with
  | [] => rfl
  | [y] =>
    by_cases e : y.1 = x.1
    · simp [putU, mkR, e]
    · simp [putU, mkR, e]
  | _ :: _ :: _ => rfl
/-- one list of marks that holds what another one does -/
structure More {b : Nat} (R : GR b) (m t : Nat) (k : Pr) (l l' : List (Mk b)) : Prop where
  two : l'.length ≤ 2 ∧ (l'.map (·.1)).Nodup
  ok : ∀ x ∈ l', MkOk R m t k x
  sub : ∀ x ∈ l, x ∈ l'
  ful : l.length = 2 → l'.length = 2
theorem More.put {b m t : Nat} {R : GR b} {k : Pr} {l l' : List (Mk b)} {x : Mk b} (h : More R m t k l l') (hx : MkOk R m t k x) : More R m t k l (putU l' x) ∧ (x.1 ∈ (putU l' x).map (·.1) ∨ (putU l' x).length = 2) ∧ ∀ v : U b, (v ∈ l'.map (·.1) ∨ l'.length = 2) → (v ∈ (putU l' x).map (·.1) ∨ (putU l' x).length = 2) := by
  obtain ⟨h1, h2, h3, h4, h5, h6⟩ := putU_cov l' x h.two.1
  have h7 : l'.length = 2 → (putU l' x).length = 2 := fun e => by
    match l', e with
    | [_, _], _ => rfl
  refine ⟨⟨⟨h1, h6 h.two.2⟩, fun y hy => ?_, fun y hy => h4 y (h.sub y hy), fun e => h7 (h.ful e)⟩, h5, fun v hv => ?_⟩
  · rcases h3 y hy with hy | rfl
    · exact h.ok y hy
    · exact hx
  · rcases hv with hv | hv
    · obtain ⟨y, hy, rfl⟩ := List.mem_map.mp hv
      exact .inl (List.mem_map.mpr ⟨y, h4 y hy, rfl⟩)
    · exact .inr (h7 hv)
theorem LayW.upd {b m t : Nat} {R : GR b} {ks : List Pr} {ls : List (List (Mk b))} {k : Pr} {l l' : List (Mk b)} {j : Nat} (hW : LayW R m t ks ls) (h1 : ks[j]? = some k) (h2 : ls[j]? = some l) (h : More R m t k l l') : LayW R m t ks (ls.set j l') ∧ (∀ y v, Cov ks ls y v → Cov ks (ls.set j l') y v) ∧ ∀ v, (v ∈ l'.map (·.1) ∨ l'.length = 2) → Cov ks (ls.set j l') k v := by
  have hj : j < ls.length := enum_at h2
  refine ⟨⟨by rw [List.length_set]; exact hW.len, hW.nodup, fun i k2 l2 q1 q2 x hx => ?_, fun l2 hl2 => ?_, hW.ltk⟩, fun y v ⟨i, l2, q1, q2, q3⟩ => ?_, fun v hv => ⟨j, l', h1, List.getElem?_set_self hj, hv⟩⟩
  · by_cases e : j = i
    · subst e
      rw [List.getElem?_set_self hj] at q2
      cases q2
      rw [h1] at q1
      cases q1
      exact h.ok x hx
    · rw [List.getElem?_set_ne e] at q2
      exact hW.ok i k2 l2 q1 q2 x hx
  · rcases List.mem_or_eq_of_mem_set hl2 with q | rfl
    · exact hW.two l2 q
    · exact h.two
  · by_cases e : j = i
    · subst e
      rw [h2] at q2
      cases q2
      refine ⟨j, l', q1, List.getElem?_set_self hj, ?_⟩
      rcases q3 with q3 | q3
      · obtain ⟨x, hx, rfl⟩ := List.mem_map.mp q3
        exact .inl (List.mem_map.mpr ⟨x, h.sub x hx, rfl⟩)
      · exact .inr (h.ful q3)
    · exact ⟨i, l2, q1, by rw [List.getElem?_set_ne e]; exact q2, q3⟩
theorem LayW.push {b m t : Nat} {R : GR b} {ks : List Pr} {ls : List (List (Mk b))} {k : Pr} {l' : List (Mk b)} (hW : LayW R m t ks ls) (h1 : k ∉ ks) (h2 : k.1 < m ∧ k.2 < m) (h : More R m t k [] l') : LayW R m t (ks ++ [k]) (ls ++ [l']) ∧ (∀ y v, Cov ks ls y v → Cov (ks ++ [k]) (ls ++ [l']) y v) ∧ ∀ v, (v ∈ l'.map (·.1) ∨ l'.length = 2) → Cov (ks ++ [k]) (ls ++ [l']) k v := by
  refine ⟨⟨by simp [hW.len], ?_, fun i k2 l2 q1 q2 x hx => ?_, fun l2 hl2 => ?_, fun k2 hk2 => ?_⟩, fun y v ⟨i, l2, q1, q2, q3⟩ => ⟨i, l2, ?_, ?_, q3⟩, fun v hv => ⟨ks.length, l', by simp, by rw [hW.len]; simp, hv⟩⟩
  · exact List.nodup_append.mpr ⟨hW.nodup, by simp, fun a ha c hc e => h1 (by rw [List.mem_singleton.mp hc] at e; exact e ▸ ha)⟩
  · by_cases e : i < ks.length
    · rw [List.getElem?_append_left e] at q1
      rw [List.getElem?_append_left (by rw [← hW.len]; exact e)] at q2
      exact hW.ok i k2 l2 q1 q2 x hx
    · rw [List.getElem?_append_right (by omega)] at q1
      rw [List.getElem?_append_right (by rw [← hW.len]; omega), ← hW.len] at q2
      cases e2 : i - ks.length with
      | zero =>
        rw [e2] at q1 q2
        cases q1
        cases q2
        exact h.ok x hx
      | succ n => rw [e2] at q1; simp at q1
  · rcases List.mem_append.mp hl2 with q | q
    · exact hW.two l2 q
    · rw [List.mem_singleton.mp q]; exact h.two
  · rcases List.mem_append.mp hk2 with q | q
    · exact hW.ltk k2 q
    · rw [List.mem_singleton.mp q]; exact h2
  · rw [List.getElem?_append_left (enum_at q1)]; exact q1
  · rw [List.getElem?_append_left (enum_at q2)]; exact q2
theorem LayW.nil {b m t : Nat} {R : GR b} : LayW R m t [] [] := ⟨rfl, .nil, fun i k l h => by simp at h, fun l h => by simp at h, fun k h => by simp at h⟩

set_option maxHeartbeats 4000000
def S_longer_by_one : Spec := fun zs rs P _ => ∃ (w : V) (b m t : Nat) (R : GR b) (ks : List Pr) (ls : List (List (Mk b))), zs = [grU R, .raw w] ∧ rs = [(w, .d (ks.map pk) (ls.map fmO))] ∧ Sq R m ∧ m ≤ 10 ∧ Tb R 72 ∧ b ≤ 1000 ∧ t ≤ 600 ∧ Lay R m t ks ls ∧ ∀ ks' ls', Lay R m (t + 1) ks' ls' → P (.d (ks'.map pk) (ls'.map fmO)) []
theorem f_longer_by_one {g : Pg} (hd : Dx g "longer_by_one" st_longer_by_one) (f1 : Fn g "led_pairs" 5 S_led_pairs) (f2 : Fn g "put_unlike" 1 S_put_unlike) (f3 : Fn g "unit_plus" 4 S_unit_plus) : Fn g "longer_by_one" 6 S_longer_by_one := by
  refine fm_longer_by_one hd (fun zs rs P P2 h => by obtain ⟨w, b, m, t, R, ks, ls, rfl, _⟩ := h; rfl) fun zs rs P P2 h => ?_
  obtain ⟨w, b, m, t, R, ks, ls, rfl, rfl, hs, hm, ht, hb, ht6, hL, hP⟩ := h
  have hmm : m * m ≤ 10 * 10 := Nat.mul_le_mul hm hm
  refine r_nox ?_
  walk_at "y0"
  walk_at "ys"
  intro w2
  walk_at "yx"
  walk_at "yz"
  refine r_cons ?_
  refine s_lock (.tl .hd) (fun ob us => ?_) (fun _ _ _ h => h)
  refine s_for ?_ (by intro _ _; rfl)
  refine it_keys ?_
  walk_at "ys"
  refine ⟨w, ob, us, _, _, _, rfl, .tl .hd, ?_⟩
  rw [keysD_pk]
  refine ⟨fun k env2 => ∃ (ks2 : List Pr) (ls2 : List (List (Mk b))) (x3 x4 x5 x6 x7 x8 x9 : Option D), env2 = ⟨[some (grU R), some (.raw w), some (.raw w2), x3, x4, x5, x6, x7, x8, x9], [(w2, .d (ks2.map pk) (ls2.map lmO)), (w, .kd ob us (ks.map pk) (ls.map fmO))]⟩ ∧ LayW R m (t + 1) ks2 ls2 ∧ ∀ (i : Nat) (p : Pr) (l : List (Mk b)), i < k → ks[i]? = some p → ls[i]? = some l → ∀ x ∈ l, ∀ y d, Led R p y d → Cov ks2 ls2 y (x.1 + d), ?_, ?_, ?_, ?_⟩
  · exact ⟨[], [], _, _, _, _, _, _, _, rfl, .nil, fun _ _ _ h => absurd h (by omega)⟩
  · intro k env2 _ ⟨ks2, ls2, x3, x4, x5, x6, x7, x8, x9, e, _⟩
    subst e
    exact ⟨_, _, .tl .hd⟩
  · intro k z env2 hz ⟨ks2, ls2, x3, x4, x5, x6, x7, x8, x9, e, hW, hk⟩
    subst e
    obtain ⟨p, hp, rfl⟩ := map_get hz
    obtain ⟨i0, l, hi0, hl1⟩ := dv_mem hL.len (List.mem_of_getElem? hp)
    obtain rfl : i0 = k := nodup_ix hL.nodup hi0 hp
    have hpl := hL.ltk p (List.mem_of_getElem? hp)
    walk_at "ys"
    refine s_for ?_ (by intro _ _; rfl)
    refine it_lst ?_
    walk_at "ys"
    walk_at "yn"
    refine ⟨b, m, R, _, p, rfl, rfl, .t, hs, hm, ht, hb, hpl.1, hpl.2, ?_⟩
    walk_at "yz"
    rw [fz_ldO]
    walk_at "yd"
    refine ⟨_, rfl, fun j env2 => ∃ (ks2 : List Pr) (ls2 : List (List (Mk b))) (x4 x5 x6 x7 x8 x9 : Option D), env2 = ⟨[some (grU R), some (.raw w), some (.raw w2), some (pkD p), x4, x5, x6, x7, x8, x9], [(w2, .d (ks2.map pk) (ls2.map lmO)), (w, .kd ob us (ks.map pk) (ls.map fmO))]⟩ ∧ LayW R m (t + 1) ks2 ls2 ∧ (∀ (i : Nat) (p : Pr) (l : List (Mk b)), i < i0 → ks[i]? = some p → ls[i]? = some l → ∀ x ∈ l, ∀ y d, Led R p y d → Cov ks2 ls2 y (x.1 + d)) ∧ ∀ (i2 : Nat) (y : Pr) (d : U b), i2 < j → (ledL R p)[i2]? = some (y, d) → ∀ x ∈ l, Cov ks2 ls2 y (x.1 + d), ?_, fun _ _ _ _ => trivial, ?_, ?_⟩
    · exact ⟨ks2, ls2, _, _, _, _, _, _, rfl, hW, hk, fun _ _ _ h => absurd h (by omega)⟩
    · intro j z env2 hz ⟨ks2, ls2, x4, x5, x6, x7, x8, x9, e, hW, hk, hj⟩
      subst e
      obtain ⟨⟨y, d⟩, hyd, rfl⟩ := map_get hz
      have hl : Led R p y d := mem_ledL.mp (List.mem_of_getElem? hyd)
      have hle := pairs_le hW.nodup hW.ltk
      have hlen := hW.len
      simp only [ldD]
      walk_at "ygs"
      walk_at "yz"
      have h0 : ∀ (v : V), More R m (t + 1) y [] [] := fun _ => ⟨⟨by simp, .nil⟩, fun x hx => by simp at hx, fun x hx => by simp at hx, fun e => by simp at e⟩
      refine r_cut (fun env1 => ∃ (v : V) (l0 : List (Mk b)) (j2 : Nat) (kz : List (List Key)) (hz : List O), env1 = ⟨[some (grU R), some (.raw w), some (.raw w2), some (pkD p), some (pkD y), some (uD d), some (.raw v), x7, x8, x9], [(v, .l (l0.map fun x => mkO (mkR x))), (w2, .d kz hz), (w, .kd ob us (ks.map pk) (ls.map fmO))]⟩ ∧ hz[j2]? = some (.h v) ∧ ((ks2[j2]? = some y ∧ ls2[j2]? = some l0 ∧ kz = ks2.map pk ∧ hz = (ls2.map lmO).set j2 (.h v)) ∨ (y ∉ ks2 ∧ l0 = [] ∧ kz = ks2.map pk ++ [pk y] ∧ hz = ls2.map lmO ++ [.h v] ∧ j2 = ls2.length))) ?_ fun env1 ⟨v, l0, j2, kz, hz, e, hget, hcase⟩ => ?_
      · walk_at "ys"
        refine e_setd ?_ (fun X => ⟨rfl, rfl, by rfl, rfl⟩)
        walk_at "ys"
        refine ⟨_, _, _, _, rfl, .hd, ?_⟩
        walk_at "ys"
        refine eo_nil ?_
        refine ⟨_, _, pk y, _, .hd, rfl, by simp only [List.length_map]; omega, fun j2 t hj2 ht2 v => ?_, fun hn v => ?_⟩
        · have h1 := dIx_get hj2
          obtain ⟨y', hy1, hy2⟩ := map_get h1
          obtain rfl := pk_inj hy2
          obtain ⟨l, hl1, rfl⟩ := map_get ht2
          walk_at "yx"
          exact ⟨v, l, j2, _, _, rfl, List.getElem?_set_self (by rw [List.length_map]; exact enum_at hl1), .inl ⟨hy1, hl1, rfl, rfl⟩⟩
        · walk_at "yx"
          exact ⟨v, [], ls2.length, _, _, rfl, by simp, .inr ⟨fun z => hn (pk_mem.mpr z), rfl, rfl, rfl, rfl⟩⟩
      subst e
      have hM0 : More R m (t + 1) y l0 l0 := by
        rcases hcase with ⟨q1, q2, _, _⟩ | ⟨_, rfl, _⟩
        · exact ⟨hW.two l0 (List.mem_of_getElem? q2), hW.ok j2 y l0 q1 q2, fun x hx => hx, fun e => e⟩
        · exact h0 v
      walk_at "ys"
      refine s_for ?_ (by intro _ _; rfl)
      refine it_lst ?_
      walk_at "ydg"
      walk_at "ys"
      refine ⟨_, _, _, .lst (l.map fun x => mkT (mkR x)), .kd (.tl (.tl .hd)), pk_key p, dGet_pk hL.nodup hp (by rw [List.getElem?_map, hl1]; rfl), ?_⟩
      have hl2 := (hL.two l (List.mem_of_getElem? hl1)).1
      have hBd := hl.bt ht
      refine ⟨_, rfl, fun i3 env2 => ∃ (l1 : List (Mk b)) (x7 x8 x9 : Option D), env2 = ⟨[some (grU R), some (.raw w), some (.raw w2), some (pkD p), some (pkD y), some (uD d), some (.raw v), x7, x8, x9], [(v, .l (l1.map fun x => mkO (mkR x))), (w2, .d kz hz), (w, .kd ob us (ks.map pk) (ls.map fmO))]⟩ ∧ More R m (t + 1) y l0 l1 ∧ ∀ (i2 : Nat) (x : Mk b), i2 < i3 → l[i2]? = some x → (x.1 + d ∈ l1.map (·.1) ∨ l1.length = 2), ?_, fun _ _ _ _ => trivial, ?_, ?_⟩
      · exact ⟨l0, _, _, _, rfl, hM0, fun _ _ h => absurd h (by omega)⟩
      · intro i3 z env2 hz3 ⟨l1, x7, x8, x9, e, hM, hi3⟩
        subst e
        obtain ⟨x, hx3, rfl⟩ := map_get hz3
        have hxl := List.mem_of_getElem? hx3
        have hxo := hL.ok i0 p l hi0 hl1 x hxl
        have hxb := hxo.bt ht
        have hxn := hxo.next hl
        obtain ⟨_, _, _, hw1, hw2, _⟩ := hxo
        have hs1 := (hw1.start hs).2.2.1
        have hs2 := (hw2.start hs).2.2.1
        simp only [mkT, mkR, plD]
        walk_at "ys"
        walk_at "yn"
        refine ⟨x.1.1, d.1, rfl, rfl, by rw [x.1.2, d.2], by rw [x.1.2]; exact hb, hxb.uz (by omega), hBd.uz (by decide), ?_⟩
        walk_at "yd"
        walk_at "ys"
        refine op_catT (by simp; omega) ?_
        walk_at "ys"
        refine op_catT (by simp; omega) ?_
        walk_at "ys"
        walk_at "yn1"
        refine ⟨v, b, l1.map mkR, mkR (x.1 + d, x.2.1 ++ [y.1], x.2.2 ++ [y.2]), ?_, ?_, by rw [List.length_map]; exact hM.two.1, ?_⟩
        · simp only [mkT, mkR, plD, List.map_append]; rfl
        · rw [List.map_map]; rfl
        rw [putU_mkR, List.map_map]
        walk_at "yd"
        walk_at "ys"
        obtain ⟨q1, q2, q3⟩ := hM.put hxn
        refine ⟨putU l1 (x.1 + d, x.2.1 ++ [y.1], x.2.2 ++ [y.2]), _, _, _, rfl, q1, fun i2 x2 h1 h2 => ?_⟩
        by_cases qq : i2 < i3
        · exact q3 _ (hi3 i2 x2 qq h2)
        · obtain rfl : i2 = i3 := by omega
          rw [hx3] at h2
          cases h2
          exact q2
      · intro env2 ⟨l1, x7, x8, x9, e, hM, hi3⟩
        subst e
        refine r_back (w := w2) .hd .hd (.d hget) ?_
        walk_at "ys"
        have hall : ∀ x ∈ l, (x.1 + d ∈ l1.map (·.1) ∨ l1.length = 2) := fun x hx => by
          obtain ⟨i2, h2⟩ := List.mem_iff_getElem?.mp hx
          exact hi3 i2 x (by rw [List.length_map]; exact enum_at h2) h2
        have hlt := (hl.lt hs).2
        have fin : ∀ (ks3 : List Pr) (ls3 : List (List (Mk b))), (∀ y v, Cov ks2 ls2 y v → Cov ks3 ls3 y v) → (∀ v, (v ∈ l1.map (·.1) ∨ l1.length = 2) → Cov ks3 ls3 y v) → (∀ (i : Nat) (p : Pr) (l : List (Mk b)), i < i0 → ks[i]? = some p → ls[i]? = some l → ∀ x ∈ l, ∀ y d, Led R p y d → Cov ks3 ls3 y (x.1 + d)) ∧ ∀ (i2 : Nat) (y : Pr) (d : U b), i2 < j + 1 → (ledL R p)[i2]? = some (y, d) → ∀ x ∈ l, Cov ks3 ls3 y (x.1 + d) := fun ks3 ls3 g1 g2 => ⟨fun i p l q1 q2 q3 x q4 y d q5 => g1 _ _ (hk i p l q1 q2 q3 x q4 y d q5), fun i2 y' d' q1 q2 x q3 => by
          by_cases qq : i2 < j
          · exact g1 _ _ (hj i2 y' d' qq q2 x q3)
          · obtain rfl : i2 = j := by omega
            rw [hyd] at q2
            cases q2
            exact g2 _ (hall x q3)⟩
        rcases hcase with ⟨g1, g2, rfl, rfl⟩ | ⟨g1, rfl, rfl, rfl, rfl⟩
        · obtain ⟨q1, q2, q3⟩ := hW.upd g1 g2 hM
          have e1 : ((ls2.map lmO).set j2 (.h v)).set j2 (.l (l1.map fun x => mkO (mkR x))) = (ls2.set j2 l1).map lmO := by
            rw [List.set_set]
            exact map_set lmO ls2 j2 _
          rw [e1]
          exact ⟨ks2, _, _, _, _, _, _, _, rfl, q1, fin _ _ q2 q3⟩
        · obtain ⟨q1, q2, q3⟩ := hW.push g1 hlt hM
          have e1 : (ls2.map lmO ++ [O.h v]).set ls2.length (.l (l1.map fun x => mkO (mkR x))) = (ls2 ++ [l1]).map lmO := by
            have e0 : (ls2 ++ [l1]).map lmO = ls2.map lmO ++ [lmO l1] := by rw [List.map_append]; rfl
            rw [e0, List.set_append_right _ _ (by simp), List.length_map, Nat.sub_self]
            rfl
          rw [e1]
          exact ⟨ks2 ++ [y], _, _, _, _, _, _, _, by simp only [List.map_append]; rfl, q1, fin _ _ q2 q3⟩
    · intro env2 ⟨ks2, ls2, x4, x5, x6, x7, x8, x9, e, hW, hk, hj⟩
      subst e
      walk_at "ys"
      refine ⟨ks2, ls2, _, _, _, _, _, _, _, rfl, hW, fun i p2 l2 q1 q2 q3 x q4 y d q5 => ?_⟩
      by_cases qq : i < i0
      · exact hk i p2 l2 qq q2 q3 x q4 y d q5
      · obtain rfl : i = i0 := by omega
        rw [hi0] at q2
        cases q2
        rw [hl1] at q3
        cases q3
        obtain ⟨i3, h8⟩ := List.mem_iff_getElem?.mp (mem_ledL.mpr q5)
        exact hj i3 y d (by rw [List.length_map]; exact enum_at h8) h8 x q4
  · intro env2 ⟨ks2, ls2, x3, x4, x5, x6, x7, x8, x9, e, hW, hk⟩
    subst e
    have hL2 : Lay R m (t + 1) ks2 ls2 := hL.next hW fun i k l q1 q2 x q3 y d q4 => hk i k l (by rw [List.length_map]; exact enum_at q1) q1 q2 x q3 y d q4
    refine ⟨_, _, .tl .hd, ?_⟩
    walk_at "yz"
    refine r_frzD (.refl _) ?_
    rw [fzs_lmO]
    refine r_cons ?_
    refine s_retO (eo_mv ?_)
    walk_at "ys"
    refine ⟨_, _, _, rfl, .hd, fin_nil ?_⟩
    exact hP _ _ hL2

set_option maxHeartbeats 4000000
def S_unlike_in : Spec := fun zs rs P _ => ∃ (w : V) (b m t : Nat) (R : GR b) (ks : List Pr) (ls : List (List (Mk b))), zs = [.raw w, .int b] ∧ rs = [(w, .d (ks.map pk) (ls.map fmO))] ∧ b ≤ 1000 ∧ Lay R m t ks ls ∧ ((∀ (i : Nat) (z : Nat) (l : List (Mk b)), ks[i]? = some (z, z) → ls[i]? = some l → ∀ x ∈ l, x.1 = 0) → P (.s .non) [(w, .d (ks.map pk) (ls.map fmO))]) ∧ ∀ (i : Nat) (z : Nat) (l : List (Mk b)), ks[i]? = some (z, z) → ls[i]? = some l → ∀ x ∈ l, x.1 ≠ 0 → P (.s (.tup [plD x.2.1, plD x.2.2])) [(w, .d (ks.map pk) (ls.map fmO))]
theorem f_unlike_in {g : Pg} (hd : Dx g "unlike_in" st_unlike_in) (f1 : Fn g "unitless" 1 S_unitless) : Fn g "unlike_in" 2 S_unlike_in := by
  refine fm_unlike_in hd (fun zs rs P P2 h => by obtain ⟨w, b, m, t, R, ks, ls, rfl, _⟩ := h; rfl) fun zs rs P P2 h => ?_
  obtain ⟨w, b, m, t, R, ks, ls, rfl, rfl, hb, hL, hP1, hP2⟩ := h
  refine r_nox ?_
  walk_at "y0"
  refine s_lock .hd (fun ob us => ?_) (fun _ _ _ h => h)
  refine s_for ?_ (by intro _ _; rfl)
  refine it_keys ?_
  walk_at "ys"
  refine ⟨w, ob, us, _, _, _, rfl, .hd, ?_⟩
  rw [keysD_pk]
  refine ⟨fun k env2 => ∃ (x3 x4 x5 x6 : Option D), env2 = ⟨[some (.raw w), some (.int b), x3, x4, x5, x6], [(w, .kd ob us (ks.map pk) (ls.map fmO))]⟩ ∧ ∀ (i : Nat) (z : Nat) (l : List (Mk b)), i < k → ks[i]? = some (z, z) → ls[i]? = some l → ∀ x ∈ l, x.1 = 0, ?_, ?_, ?_, ?_⟩
  · exact ⟨_, _, _, _, rfl, fun _ _ _ h => absurd h (by omega)⟩
  · intro k env2 _ ⟨x3, x4, x5, x6, e, _⟩
    subst e
    exact ⟨_, _, .hd⟩
  · intro k z env2 hz ⟨x3, x4, x5, x6, e, hk⟩
    subst e
    obtain ⟨⟨p, q⟩, hp, rfl⟩ := map_get hz
    obtain ⟨i0, l, hi0, hl1⟩ := dv_mem hL.len (List.mem_of_getElem? hp)
    obtain rfl : i0 = k := nodup_ix hL.nodup hi0 hp
    walk_at "ys"
    refine ⟨fun h => ?_, fun h => ?_⟩
    · obtain rfl : p = q := by have := of_decide_eq_true h; omega
      walk_at "ys"
      refine s_for ?_ (by intro _ _; rfl)
      refine it_lst ?_
      walk_at "ydg"
      walk_at "ys"
      refine ⟨_, _, _, .lst (l.map fun x => mkT (mkR x)), .kd .hd, pk_key (p, p), dGet_pk hL.nodup hp (by rw [List.getElem?_map, hl1]; rfl), ?_⟩
      refine ⟨_, rfl, fun i3 env2 => ∃ (x4 x5 x6 : Option D), env2 = ⟨[some (.raw w), some (.int b), some (pkD (p, p)), x4, x5, x6], [(w, .kd ob us (ks.map pk) (ls.map fmO))]⟩ ∧ ∀ (i2 : Nat) (x : Mk b), i2 < i3 → l[i2]? = some x → x.1 = 0, ?_, fun _ _ _ _ => trivial, ?_, ?_⟩
      · exact ⟨_, _, _, rfl, fun _ _ h => absurd h (by omega)⟩
      · intro i3 z env2 hz3 ⟨x4, x5, x6, e, hi3⟩
        subst e
        obtain ⟨x, hx3, rfl⟩ := map_get hz3
        simp only [mkT, mkR]
        walk_at "ys"
        walk_at "yn"
        refine ⟨b, rfl, rfl, by omega, ?_⟩
        walk_at "yd"
        refine op_neU (v := 0) ?_
        by_cases e : x.1 = 0
        · rw [decide_eq_true e]
          walk_at "ys"
          refine ⟨_, _, _, rfl, fun i2 x2 h1 h2 => ?_⟩
          by_cases qq : i2 < i3
          · exact hi3 i2 x2 qq h2
          · obtain rfl : i2 = i3 := by omega
            rw [hx3] at h2
            cases h2
            exact e
        · rw [decide_eq_false e]
          walk_at "ys"
          refine ⟨_, _, .hd, fin_one .hd ?_⟩
          exact hP2 i0 p l hi0 hl1 x (List.mem_of_getElem? hx3) e
      · intro env2 ⟨x4, x5, x6, e, hi3⟩
        subst e
        walk_at "ys"
        refine ⟨_, _, _, _, rfl, fun i z l2 q1 q2 q3 x q4 => ?_⟩
        by_cases qq : i < i0
        · exact hk i z l2 qq q2 q3 x q4
        · obtain rfl : i = i0 := by omega
          rw [hl1] at q3
          cases q3
          obtain ⟨i4, h4⟩ := List.mem_iff_getElem?.mp q4
          exact hi3 i4 x (by rw [List.length_map]; exact enum_at h4) h4
    · walk_at "ys"
      refine ⟨_, _, _, _, rfl, fun i z l2 q1 q2 q3 x q4 => ?_⟩
      by_cases qq : i < i0
      · exact hk i z l2 qq q2 q3 x q4
      · obtain rfl : i = i0 := by omega
        rw [hi0] at q2
        cases q2
        exact absurd h (by simp)
  · intro env2 ⟨x3, x4, x5, x6, e, hk⟩
    subst e
    refine ⟨_, _, .hd, ?_⟩
    walk_at "yz"
    walk_at "ys"
    refine fin_one .hd (hP1 fun i z l q1 q2 x q3 => hk i z l (by rw [List.length_map]; exact enum_at q1) q1 q2 x q3)
def S_unlike_rows (C : Addr) : Spec := fun zs rs P _ => ∃ (b m : Nat) (R : GR b), zs = [gD C R] ∧ rs = [] ∧ Gv m m R ∧ (Uniq R m → P (.s .non) []) ∧ ∀ (t a z : Nat) (f s : List Nat) (w v : U b), ¬ Uniq R m → (∀ t' < t, ¬ UnAt R m t') → t + 1 ≤ 2 * (m * m) → Wlk R m a t f z w → Wlk R m a t s z v → w ≠ v → P (.s (.tup [plD f, plD s])) []
theorem f_unlike_rows {g : Pg} {C f : Addr} (G : GridC g C f) (hd : Dx g "unlike_rows" st_unlike_rows) (f1 : Fn g "check_square_grid" 1 (S_check_square_grid C)) (f2 : Fn g "raw_differences" 7 S_raw_differences) (f3 : Fn g "longer_by_one" 6 S_longer_by_one) (f4 : Fn g "unlike_in" 2 S_unlike_in) (f5 : Fn g "unitless" 1 S_unitless) (m1 : g.mg "range" = none) (m2 : g.mg "len" = none) : Fn g "unlike_rows" 8 (S_unlike_rows C) := by
  refine fm_unlike_rows hd (fun zs rs P P2 h => by obtain ⟨b, m, R, rfl, _⟩ := h; rfl) fun zs rs P P2 h => ?_
  obtain ⟨b, m, R, rfl, rfl, hg, hP1, hP2⟩ := h
  walk_at "y0"
  walk_at "ys"
  walk_at "yn"
  refine ⟨b, m, R, rfl, rfl, hg, ?_⟩
  walk_at "yd"
  walk_at "ys"
  refine ⟨_, _, _, _, _, rfl, G.cls, G.n2, rfl, rfl, ?_⟩
  walk_at "ys"
  refine ⟨_, _, _, _, _, rfl, G.cls, G.n1, rfl, rfl, ?_⟩
  walk_at "ys"
  walk_at "yn"
  refine ⟨b, m, R, rfl, rfl, hg.sq, hg.n2, hg.tb, by have := hg.hb; omega, fun hu => ?_, fun ks vs hu h2 h3 => ?_⟩
  rotate_left
  · walk_at "yz"
    rw [fz_ddO]
    walk_at "ys"
    exact fin_nil (hP1 hu)
  walk_at "yd"
  walk_at "ys"
  refine s_newDcT [("place", 3)] (by kernel_rfl) ?_ (by walk_at "yk") (by walk_at "yi") (by intro _ _; rfl) (by rfl) (by rfl)
  refine it_rng m1 (by walk_at "yk") ?_ (by intro _; rfl)
  walk_at "ys"
  refine ⟨_, _, _, _, _, rfl, G.cls, G.n2, rfl, rfl, ?_⟩
  walk_at "ys"
  have hm10 := hg.n2
  refine ⟨_, rfl, by rw [hg.sq.len]; omega, ?_⟩
  rw [hg.sq.len]
  have hb10 := hg.hb
  refine ⟨(List.range m).map fun p => some (pk (p, p), .lst [mkT (mkR ((0 : U b), [p], [p]))]), by simp, by simp; omega, fun _ _ _ _ => trivial, fun k z y hz hy => ?_, ?_, ?_⟩
  · obtain ⟨hk, rfl⟩ := rng_get hz
    obtain ⟨p, hp, rfl⟩ := map_get hy
    obtain rfl : p = k := by
      obtain ⟨h3, h4⟩ := List.getElem?_eq_some_iff.mp hp
      simp at h4; exact h4.symm
    dsimp only
    refine ⟨_, by walk_at "ybd", by simp, ts_nil ⟨rfl, rfl, fun y' e => ?_⟩⟩
    cases e
    walk_at "yw"
    walk_at "ys"
    refine ⟨rfl, ?_⟩
    refine EO.toE (eo_lst ?_)
    walk_at "ys"
    refine ⟨_, _, _, _, _, rfl, G.cls, G.n1, rfl, rfl, ?_⟩
    walk_at "ys"
    walk_at "yn"
    refine ⟨b, rfl, rfl, by omega, ?_⟩
    walk_at "yd"
    walk_at "ys"
    exact ⟨rfl, rfl⟩
  · have e : (((List.range m).map fun p => some (pk (p, p), D.lst [mkT (mkR ((0 : U b), [p], [p]))])).filterMap id).map (·.1) = ((List.range m).map fun p => (p, p)).map pk := by
      rw [List.filterMap_map, List.map_filterMap, List.map_map, ← List.filterMap_eq_map]; rfl
    rw [e]
    exact pk_nodup (nodup_map (fun x y e => by simpa using e) List.nodup_range)
  have e1 : (((List.range m).map fun p => some (pk (p, p), D.lst [mkT (mkR ((0 : U b), [p], [p]))])).filterMap id).map (·.1) = ((List.range m).map fun p => (p, p)).map pk := by
    rw [List.filterMap_map, List.map_filterMap, List.map_map, ← List.filterMap_eq_map]; rfl
  have e2 : ((((List.range m).map fun p => some (pk (p, p), D.lst [mkT (mkR ((0 : U b), [p], [p]))])).filterMap id).map (·.2)).map O.s = ((List.range m).map fun p => [((0 : U b), [p], [p])]).map fmO := by
    rw [List.filterMap_map, List.map_filterMap, List.map_filterMap, List.map_map, ← List.filterMap_eq_map]; rfl
  dsimp only
  rw [e1, e2]
  intro w1
  walk_at "yx"
  walk_at "yz"
  have hL0 := Lay.start (R := R) (m := m)
  generalize ((List.range m).map fun p => (p, p)) = ks0 at hL0 ⊢
  generalize ((List.range m).map fun p => [((0 : U b), [p], [p])]) = ls0 at hL0 ⊢
  obtain ⟨T, hT1, hT2⟩ := UnAt.of hg.sq hu
  have hmm : m * m ≤ 10 * 10 := Nat.mul_le_mul hm10 hm10
  have hstart : ¬ UnAt R m 0 := by
    intro ⟨z, w, h1, h2⟩
    cases h1
    exact h2 rfl
  walk_at "ys"
  refine s_while (fun n env => ∃ (x : Option D) (w : V) (t : Nat) (ks : List Pr) (ls : List (List (Mk b))) (o : D), env = ⟨[some (gD C R), some (.raw w), some o, x], [(w, .d (ks.map pk) (ls.map fmO))]⟩ ∧ ((o = .non ∧ Lay R m t ks ls ∧ (∀ t', t' ≤ t → ¬ UnAt R m t') ∧ n = T - t ∧ t < T) ∨ (o.isNon = false ∧ n = 0 ∧ P (.s o) []))) ?_ fun n env hI => ?_
  · refine ⟨_, _, _, 0, ks0, ls0, _, rfl, .inl ⟨rfl, hL0, fun t' ht' => ?_, rfl, ?_⟩⟩
    · obtain rfl : t' = 0 := by omega
      exact hstart
    · apply Classical.byContradiction
      intro z
      obtain rfl : T = 0 := by omega
      exact hstart hT2
  obtain ⟨x, w, t, ks, ls, o, rfl, hcase⟩ := hI
  walk_at "ys"
  rcases hcase with ⟨rfl, hL, hN, rfl, hlt⟩ | ⟨ho, rfl, hp⟩
  · refine br_t rfl ?_
    refine r_cons ?_
    walk_at "ynew"
    walk_at "yco"
    walk_at "ys"
    refine ⟨_, _, _, _, _, rfl, G.cls, G.n2, rfl, rfl, ?_⟩
    walk_at "ys"
    walk_at "yn1"
    refine ⟨w, b, m, t, R, ks, ls, rfl, rfl, hg.sq, hg.n2, hg.tb, by omega, by omega, hL, fun ks2 ls2 hL2 => ?_⟩
    walk_at "yd"
    intro w3
    walk_at "yx"
    walk_at "ys"
    refine ⟨_, _, _, _, _, rfl, G.cls, G.n1, rfl, rfl, ?_⟩
    walk_at "ys"
    walk_at "yn1"
    refine ⟨w3, b, m, t + 1, R, ks2, ls2, rfl, rfl, by omega, hL2, fun h0 => ?_, fun i z l q1 q2 x q3 q4 => ?_⟩
    · walk_at "yd"
      walk_at "ys"
      have hN' : ∀ t', t' ≤ t + 1 → ¬ UnAt R m t' := fun t' ht' => by
        by_cases qq : t' ≤ t
        · exact hN t' qq
        · obtain rfl : t' = t + 1 := by omega
          exact hL2.none hg.sq h0
      have hlt' : t + 1 < T := by
        apply Classical.byContradiction
        intro z
        exact hN' T (by omega) hT2
      exact ⟨T - (t + 1), by omega, _, w3, t + 1, ks2, ls2, _, rfl, .inl ⟨rfl, hL2, hN', rfl, hlt'⟩⟩
    · walk_at "yd"
      walk_at "ys"
      obtain ⟨a, w', v', q5, q6, q7⟩ := hL2.ok i (z, z) l q1 q2 x q3
      refine ⟨0, by omega, _, w3, t + 1, ks2, ls2, _, rfl, .inr ⟨rfl, rfl, ?_⟩⟩
      exact hP2 (t + 1) a z _ _ w' v' hu (fun t' ht' => hN t' (by omega)) (by omega) q5 q6 (fun e => q4 (by rw [q7, e]; grind))
  · refine br_f ho ?_
    walk_at "ys"
    exact fin_nil hp

set_option maxHeartbeats 2000000
/-! small things for the laws' ends -/
theorem fz_gO {C : Addr} {b : Nat} (R : GR b) : (gO C R).fz = gD C R := by simp only [gO, gD, O.fz, O.fzs]
theorem op_neBB {c : Ctx} {a b : Bool} {Φ : D → Prop} (h : Φ (.bl (!(a == b)))) : Op2 c (compareOp .NotEq) (.bl a) (.bl b) Φ := op_neP (n := 0) (m := 0) (.bl a) (.bl b) (by decide) (by decide) (by
  have : PyData.eqv (D.bl a).py (D.bl b).py = (a == b) := by simp only [D.py, PyData.eqv]
  rw [this]; exact h)
theorem op_neNN {c : Ctx} {Φ : D → Prop} (h : Φ (.bl false)) : Op2 c (compareOp .NotEq) .non .non Φ := op_neP (n := 0) (m := 0) .non .non (by decide) (by decide) (by
  have : PyData.eqv D.non.py D.non.py = true := by simp only [D.py, PyData.eqv]
  rw [this]; exact h)
theorem r_drop {c : Ctx} {N : List Str} {vs : List (Option D)} {a : V × O} {rest : Rs} {st : List Stmt} {Ψ : Post} (h : R c N ⟨vs, [a]⟩ st Ψ) : R c N ⟨vs, a :: rest⟩ st Ψ := R.ent ⟨less_refl vs, rest, .refl _⟩ h
theorem r_keep {c : Ctx} {N : List Str} {vs : List (Option D)} {l1 l2 : Rs} {st : List Stmt} {Ψ : Post} (h : R c N ⟨vs, l2⟩ st Ψ) : R c N ⟨vs, l1 ++ l2⟩ st Ψ := R.ent ⟨less_refl vs, l1, List.perm_append_comm⟩ h

set_option maxHeartbeats 2000000
/-! ### what walks of so many ties weigh: no, one or two unlike ones -/
section
variable {b : Nat}
def WkN (R : GR b) (m a t q : Nat) (w : U b) : Prop := ∃ l, Wlk R m a t l q w
theorem WkN.zero {R : GR b} {m a q : Nat} {w : U b} : WkN R m a 0 q w ↔ a < m ∧ q = a ∧ w = 0 := by
  constructor
  · intro ⟨l, h⟩
    cases h
    exact ⟨‹_›, rfl, rfl⟩
  · rintro ⟨h, rfl, rfl⟩
    exact ⟨_, .one h⟩
theorem WkN.succ {R : GR b} {m a t q : Nat} {w : U b} : WkN R m a (t + 1) q w ↔ ∃ p v c, WkN R m a t p v ∧ tie R p q = some c ∧ w = v + c := by
  constructor
  · intro ⟨l, h⟩
    cases h with
    | snoc h e => exact ⟨_, _, _, ⟨_, h⟩, e, rfl⟩
  · rintro ⟨p, v, c, ⟨l, h⟩, e, rfl⟩
    exact ⟨_, .snoc h e⟩
theorem WkN.bt {R : GR b} {m a t q n : Nat} {w : U b} (h : WkN R m a t q w) (ht : Tb R n) : Bt (n * t) w := by
  obtain ⟨l, h⟩ := h
  exact h.bt ht
theorem WkN.lt {R : GR b} {m a t q : Nat} {w : U b} (s : Sq R m) (h : WkN R m a t q w) : a < m ∧ q < m := by
  obtain ⟨l, h⟩ := h
  exact ⟨(h.start s).1, (h.start s).2.1⟩
theorem unAt_iff {R : GR b} {m t : Nat} : UnAt R m t ↔ ∃ a q w v, WkN R m a t q w ∧ WkN R m a t q v ∧ w ≠ v := by
  constructor
  · intro ⟨z, w, h, hn⟩
    obtain ⟨x, rfl, a, u, v, h1, h2, e⟩ := h.mk
    exact ⟨a, z, u, v, ⟨_, h1⟩, ⟨_, h2⟩, fun q => hn (by rw [e, q]; grind)⟩
  · rintro ⟨a, q, w, v, ⟨l, h1⟩, ⟨l', h2⟩, hn⟩
    exact ⟨q, w - v, MkOk.ahd (k := (q, q)) (x := (w - v, l, l')) ⟨a, w, v, h1, h2, rfl⟩, fun e => hn (by grind)⟩
structure Mt (R : GR b) (m a t q : Nat) (l : List (U b)) : Prop where
  two : l.length ≤ 2
  nd : l.Nodup
  ok : ∀ w ∈ l, WkN R m a t q w
  ful : ∀ w, WkN R m a t q w → w ∈ l ∨ l.length = 2
structure Ml (R : GR b) (m a t : Nat) (ls : List (List (U b))) : Prop where
  len : ls.length = m
  at_ : ∀ q l, ls[q]? = some l → Mt R m a t q l
/-- on the way to the next one: S is what has come so far -/
structure Lt (R : GR b) (m a t : Nat) (S : Nat → U b → Prop) (ls : List (List (U b))) : Prop where
  len : ls.length = m
  at_ : ∀ q l, ls[q]? = some l → l.length ≤ 2 ∧ l.Nodup ∧ (∀ w ∈ l, WkN R m a (t + 1) q w) ∧ ∀ w, S q w → w ∈ l ∨ l.length = 2
theorem Lt.imp {R : GR b} {m a t : Nat} {S S' : Nat → U b → Prop} {ls : List (List (U b))} (h : Lt R m a t S ls) (g : ∀ q w, S' q w → S q w) : Lt R m a t S' ls :=
  ⟨h.len, fun q l e => let ⟨h1, h2, h3, h4⟩ := h.at_ q l e; ⟨h1, h2, h3, fun w hw => h4 w (g q w hw)⟩⟩
theorem Lt.nil {R : GR b} {m a t : Nat} : Lt R m a t (fun _ _ => False) (List.replicate m []) :=
  ⟨by simp, fun q l e => by
    obtain ⟨_, e⟩ := List.getElem?_eq_some_iff.mp e
    rw [List.getElem_replicate] at e
    subst e
    exact ⟨by simp, by simp, fun w hw => by simp at hw, fun w hw => hw.elim⟩⟩
/-- a weight put where there is room -/
def putW (l : List (U b)) (w : U b) : List (U b) := match l with
  | [] => [w]
  | [y] => if y = w then [y] else [y, w]
  | l => l
theorem putW_cov {l : List (U b)} {w : U b} (h : l.length ≤ 2) (hn : l.Nodup) : (putW l w).length ≤ 2 ∧ (putW l w).Nodup ∧ (∀ v ∈ putW l w, v ∈ l ∨ v = w) ∧ (∀ v, (v ∈ l ∨ l.length = 2) → (v ∈ putW l w ∨ (putW l w).length = 2)) ∧ (w ∈ putW l w ∨ (putW l w).length = 2) := by
  match l, h, hn with
  | [], _, _ => simp [putW]
  | [y], _, _ =>
    by_cases e : y = w
    · simp [putW, e]
    · simp [putW, e]
  | [y, z], _, hn => exact ⟨by simp [putW], hn, fun v hv => .inl hv, fun v hv => .inr rfl, .inr rfl⟩
  | _ :: _ :: _ :: _, h, _ => simp at h
theorem Lt.put {R : GR b} {m a t q : Nat} {S : Nat → U b → Prop} {ls : List (List (U b))} {l : List (U b)} {w : U b} (h : Lt R m a t S ls) (e : ls[q]? = some l) (hw : WkN R m a (t + 1) q w) : Lt R m a t (fun q' v => S q' v ∨ (q' = q ∧ v = w)) (ls.set q (putW l w)) := by
  obtain ⟨h1, h2, h3, h4⟩ := h.at_ q l e
  obtain ⟨g1, g2, g3, g4, g5⟩ := putW_cov (w := w) h1 h2
  have hq : q < ls.length := (List.getElem?_eq_some_iff.mp e).1
  refine ⟨by rw [List.length_set]; exact h.len, fun q' l' e' => ?_⟩
  by_cases qq : q = q'
  · subst qq
    rw [List.getElem?_set_self hq] at e'
    cases e'
    refine ⟨g1, g2, fun v hv => ?_, fun v hv => ?_⟩
    · rcases g3 v hv with hv | rfl
      · exact h3 v hv
      · exact hw
    · rcases hv with hv | ⟨_, rfl⟩
      · exact g4 v (h4 v hv)
      · exact g5
  · rw [List.getElem?_set_ne qq] at e'
    obtain ⟨k1, k2, k3, k4⟩ := h.at_ q' l' e'
    refine ⟨k1, k2, k3, fun v hv => ?_⟩
    rcases hv with hv | ⟨rfl, _⟩
    · exact k4 v hv
    · exact absurd rfl qq
/-- what has come of the places ahead of k -/
def Cm (R : GR b) (fs : List (List (U b))) (k : Nat) (q : Nat) (v : U b) : Prop := ∃ p l w c, p < k ∧ fs[p]? = some l ∧ w ∈ l ∧ tie R p q = some c ∧ v = w + c
theorem Lt.done {R : GR b} {m a t : Nat} {fs ls : List (List (U b))} (s : Sq R m) (hf : Ml R m a t fs) (h : Lt R m a t (Cm R fs m) ls) : Ml R m a (t + 1) ls := by
  refine ⟨h.len, fun q l e => ?_⟩
  obtain ⟨h1, h2, h3, h4⟩ := h.at_ q l e
  refine ⟨h1, h2, h3, fun v hv => ?_⟩
  obtain ⟨p, w, c, hw, hc, rfl⟩ := WkN.succ.mp hv
  have hp := (hw.lt s).2
  obtain ⟨fl, hfl⟩ : ∃ fl, fs[p]? = some fl := ⟨_, List.getElem?_eq_getElem (by rw [hf.len]; exact hp)⟩
  have hM := hf.at_ p fl hfl
  rcases hM.ful w hw with g | g
  · exact h4 _ ⟨p, fl, w, c, hp, hfl, g, hc, rfl⟩
  · have nd := hM.nd
    match fl, g, hfl, nd with
    | [w1, w2], _, hfl, nd =>
      have hne : w1 ≠ w2 := by simpa using nd
      have q1 := h4 _ ⟨p, _, w1, c, hp, hfl, by simp, hc, rfl⟩
      have q2 := h4 _ ⟨p, _, w2, c, hp, hfl, by simp, hc, rfl⟩
      rcases q1 with q1 | q1
      · rcases q2 with q2 | q2
        · have hne2 : w1 + c ≠ w2 + c := fun e => hne (by grind)
          match l, h1, q1, q2 with
          | [], _, q1, _ => simp at q1
          | [x], _, q1, q2 =>
            simp at q1 q2
            exact absurd (q1.trans q2.symm) hne2
          | [_, _], _, _, _ => exact .inr rfl
          | _ :: _ :: _ :: _, h1, _, _ => simp at h1
        · exact .inr q2
      · exact .inr q1
theorem Ml.start {R : GR b} {m a : Nat} (ha : a < m) : Ml R m a 0 ((List.replicate m ([] : List (U b))).set a [0]) := by
  refine ⟨by simp, fun q l e => ?_⟩
  by_cases qq : a = q
  · subst qq
    rw [List.getElem?_set_self (by simpa using ha)] at e
    cases e
    exact ⟨by simp, by simp, fun w hw => by rw [List.mem_singleton.mp hw]; exact WkN.zero.mpr ⟨ha, rfl, rfl⟩, fun w hw => .inl (by rw [(WkN.zero.mp hw).2.2]; simp)⟩
  · rw [List.getElem?_set_ne qq] at e
    obtain ⟨_, e⟩ := List.getElem?_eq_some_iff.mp e
    rw [List.getElem_replicate] at e
    subst e
    exact ⟨by simp, by simp, fun w hw => by simp at hw, fun w hw => absurd (WkN.zero.mp hw).2.1.symm qq⟩
/-- what is told of a cell of a power -/
def vdD (l : List (U b)) : D := match l with
  | [] => .str "nought"
  | [w] => uD w
  | _ => .non
theorem Mt.non {R : GR b} {m a t q : Nat} {l : List (U b)} (h : Mt R m a t q l) (e : (vdD l).isNon = true) : ∃ w v, WkN R m a t q w ∧ WkN R m a t q v ∧ w ≠ v := by
  match l, h, e with
  | [], _, e => cases e
  | [w], _, e => cases e
  | w :: v :: r, h, _ => exact ⟨w, v, h.ok w (by simp), h.ok v (by simp), by have := h.nd; simp at this; exact this.1.1⟩
theorem Mt.two_of {R : GR b} {m a t q : Nat} {l : List (U b)} (h : Mt R m a t q l) {w v : U b} (h1 : WkN R m a t q w) (h2 : WkN R m a t q v) (hn : w ≠ v) : l.length = 2 := by
  rcases h.ful w h1 with g1 | g1
  · rcases h.ful v h2 with g2 | g2
    · match l, h.two, g1, g2 with
      | [], _, g1, _ => simp at g1
      | [x], _, g1, g2 =>
        simp at g1 g2
        exact absurd (g1.trans g2.symm) hn
      | [_, _], _, _, _ => rfl
      | _ :: _ :: _ :: _, h, _, _ => simp at h
    · exact g2
  · exact g1
theorem vd_two {l : List (U b)} (h : l.length = 2) : vdD l = .non := by
  match l, h with
  | [_, _], _ => rfl
theorem Mt.one_of {R : GR b} {m a t q : Nat} {l : List (U b)} (h : Mt R m a t q l) {w : U b} (h1 : WkN R m a t q w) (h2 : ∀ v, WkN R m a t q v → v = w) : l = [w] := by
  have key : ∀ v ∈ l, v = w := fun v hv => h2 v (h.ok v hv)
  have nd := h.nd
  match l, key, nd, h.ful w h1 with
  | [], _, _, g => simp at g
  | [x], key, _, _ => rw [key x (by simp)]
  | x :: y :: r, key, nd, _ =>
    have e1 := key x (by simp)
    have e2 := key y (by simp)
    subst e1 e2
    simp at nd
end

set_option maxHeartbeats 2000000
theorem cell_at {b : Nat} {R : GR b} {m p j : Nat} (s : Sq R m) (hp : p < m) (hj : j < m) : ∃ r, R[p]? = some r ∧ r[j]? = some (tie R p j) := by
  have h1 : p < R.length := by rw [s.len]; exact hp
  refine ⟨R[p], List.getElem?_eq_getElem h1, ?_⟩
  have h2 : j < R[p].length := by rw [s.row _ (List.getElem_mem h1)]; exact hj
  unfold tie
  rw [List.getElem?_eq_getElem h1, Option.getD_some, List.getElem?_eq_getElem h2]
  rfl
theorem isIn_uD {b : Nat} (u : U b) : ∀ l : List (U b), isInD (uD u) (l.map fun v => uD v) = decide (u ∈ l)
  | [] => by simp [isInD]
  | v :: l => by
    have ih := isIn_uD u l
    unfold isInD at ih ⊢
    rw [List.map_cons, List.any_cons, ih, eqv_uD]
    by_cases h : v = u
    · subst h; simp
    · by_cases h2 : u ∈ l
      · simp [h, h2]
      · simp [h, h2]; exact fun z => h z.symm
theorem isNon_clU2 {b : Nat} (q : Option (U b)) : (clU q).isNon = q.isNone := by cases q <;> rfl

set_option maxHeartbeats 4000000
/-! powers -/
def S_check_number : Spec := fun zs rs P _ => ∃ i a b : Int, zs = [.int i, .int a, .int b] ∧ rs = [] ∧ a ≤ i ∧ i ≤ b ∧ P (.s .non) []
theorem f_check_number {g : Pg} (hd : Dx g "check_number" st_check_number) (f1 : Fn g "is_within" 2 S_is_within) : Fn g "check_number" 3 S_check_number := by
  refine fm_check_number hd (fun zs rs P P2 h => by obtain ⟨i, a, b, rfl, _⟩ := h; rfl) fun zs rs P P2 h => ?_
  obtain ⟨i, a, b, rfl, rfl, h1, h2, hP⟩ := h
  walk_at "y0"
  walk_at "ys"
  walk_at "yn"
  refine ⟨i, a, b, rfl, rfl, ?_⟩
  rw [decide_eq_true (show a ≤ i ∧ i ≤ b from ⟨h1, h2⟩)]
  walk_at "yd"
  walk_at "ys"
  exact fin_nil hP
def S_check_cell : Spec := fun zs rs P _ => ∃ n m i j : Nat, zs = [.tup [.int n, .int m], .int i, .int j] ∧ rs = [] ∧ i < n ∧ j < m ∧ P (.s .non) []
theorem f_check_cell {g : Pg} (hd : Dx g "check_cell" st_check_cell) (f1 : Fn g "is_within" 2 S_is_within) : Fn g "check_cell" 3 S_check_cell := by
  refine fm_check_cell hd (fun zs rs P P2 h => by obtain ⟨n, m, i, j, rfl, _⟩ := h; rfl) fun zs rs P P2 h => ?_
  obtain ⟨n, m, i, j, rfl, rfl, h1, h2, hP⟩ := h
  walk_at "y0"
  walk_at "ys"
  walk_at "yn"
  refine ⟨i, 0, (n : Int) - 1, rfl, rfl, ?_⟩
  rw [decide_eq_true (show (0 : Int) ≤ (i : Int) ∧ (i : Int) ≤ (n : Int) - 1 by omega)]
  walk_at "yd"
  walk_at "ys"
  walk_at "yn"
  refine ⟨j, 0, (m : Int) - 1, rfl, rfl, ?_⟩
  rw [decide_eq_true (show (0 : Int) ≤ (j : Int) ∧ (j : Int) ≤ (m : Int) - 1 by omega)]
  walk_at "yd"
  walk_at "ys"
  exact fin_nil hP
def mrD {b : Nat} (l : List (U b)) : D := .lst (l.map fun w => .tup [uD w])
def mrO {b : Nat} (l : List (U b)) : O := .l (l.map fun w => mkO ((w, []) : U b × List D))
theorem fz_mrO {b : Nat} (l : List (U b)) : (mrO l).fz = mrD l := by
  have e : (l.map fun w => mkO ((w, []) : U b × List D)) = (l.map fun w => D.tup [uD w]).map O.s := by rw [List.map_map]; rfl
  unfold mrO mrD
  rw [e]
  simp only [O.fz, fzs_map]
theorem fzs_mrO {b : Nat} : ∀ ls : List (List (U b)), O.fzs (ls.map mrO) = ls.map mrD
  | [] => by simp [O.fzs]
  | l :: ls => by simp only [List.map_cons, O.fzs, fz_mrO, fzs_mrO ls]
theorem putU_W {b : Nat} (l : List (U b)) (w : U b) : putU (l.map fun v => ((v, []) : U b × List D)) (w, []) = (putW l w).map fun v => (v, []) := by
  match l with
  | [] => rfl
  | [y] =>
    by_cases e : y = w
    · simp [putU, putW, e]
    · simp [putU, putW, e]
  | _ :: _ :: _ => rfl
theorem fz_emp_set {m a : Nat} {d : D} : O.fzs ((List.replicate m (.l [])).set a (.s d)) = (List.replicate m (D.lst [])).set a d := by
  have h : ∀ os : List O, O.fzs os = os.map O.fz := fun os => by
    induction os with
    | nil => simp [O.fzs]
    | cons o os ih => simp only [O.fzs, List.map_cons, ih]
  rw [h, List.map_set, List.map_replicate]
  simp only [O.fz, O.fzs]
def S_power_marks : Spec := fun zs rs P _ => ∃ (b m many a : Nat) (R : GR b), zs = [grU R, .int many, .int a, .int b] ∧ rs = [] ∧ Sq R m ∧ m ≤ 10 ∧ Tb R 72 ∧ b ≤ 10 ∧ a < m ∧ many ≤ 200 ∧ ∀ ls, Ml R m a many ls → P (.s (.lst (ls.map mrD))) []
theorem f_power_marks {g : Pg} (hd : Dx g "power_marks" st_power_marks) (f1 : Fn g "unitless" 1 S_unitless) (f2 : Fn g "unit_plus" 4 S_unit_plus) (f3 : Fn g "put_unlike" 1 S_put_unlike) (m1 : g.mg "range" = none) (m2 : g.mg "enumerate" = none) : Fn g "power_marks" 5 S_power_marks := by
  refine fm_power_marks hd (fun zs rs P P2 h => by obtain ⟨b, m, many, a, R, rfl, _⟩ := h; rfl) fun zs rs P P2 h => ?_
  obtain ⟨b, m, many, a, R, rfl, rfl, hs, hm, ht, hb, ha, hmany, hP⟩ := h
  walk_at "y0"
  refine s_newLcE [("place", 4)] (by kernel_rfl) ?_ (by walk_at "yk") (by walk_at "yi") (by intro _ _; rfl) (by rfl) (by rfl)
  refine it_tup ?_
  walk_at "ys"
  refine ⟨_, rfl, by rw [List.length_map, hs.len]; omega, fun _ _ _ => trivial, fun z _ => ⟨_, by walk_at "ybd", by simp⟩, fun w0 => ?_⟩
  rw [List.length_map, hs.len]
  walk_at "yx"
  walk_at "yz"
  walk_at "yS"
  walk_at "yn"
  refine ⟨b, rfl, rfl, by omega, ?_⟩
  walk_at "yd"
  walk_at "yS"
  refine ⟨_, _, _, a, _, rfl, rfl, .hd, ixN_nat (by simpa using ha), ?_⟩
  walk_at "yz"
  have hL0 := Ml.start (R := R) ha
  refine r_frzV (x := "found") (by walk_at "yl") (by walk_at "yp") (by walk_at "yt") ?_
  simp only [O.fz, fz_emp_set, fzs_map]
  rw [show (List.replicate m (D.lst [])).set a (.lst [.tup [un (u0 b)]]) = (((List.replicate m ([] : List (U b))).set a [0]).map mrD) by rw [List.map_set, List.map_replicate]; rfl]
  generalize (List.replicate m ([] : List (U b))).set a [0] = ls0 at hL0 ⊢
  walk_at "yz"
  refine r_cut (fun env2 => ∃ ls x4 x6 x7 x8 x9 x10 x11, env2 = ⟨[some (grU R), some (.int many), some (.int a), some (.int b), x4, some (.lst (ls.map mrD)), x6, x7, x8, x9, x10, x11], []⟩ ∧ Ml R m a many ls) ?_ fun env2 ⟨ls, x4, x6, x7, x8, x9, x10, x11, e, hL⟩ => ?_
  rotate_left
  · subst e
    walk_at "ys"
    exact fin_nil (hP ls hL)
  refine s_for ?_ (by intro _ _; rfl)
  refine it_rng m1 (by walk_at "yk") ?_ (by intro _; rfl)
  walk_at "ys"
  refine ⟨many, rfl, by omega, fun t env2 => ∃ ls x4 x6 x7 x8 x9 x10 x11, env2 = ⟨[some (grU R), some (.int many), some (.int a), some (.int b), x4, some (.lst (ls.map mrD)), x6, x7, x8, x9, x10, x11], []⟩ ∧ Ml R m a t ls, ⟨ls0, _, _, _, _, _, _, _, rfl, hL0⟩, fun _ _ _ _ => trivial, fun t z env2 hz ⟨fs, x4, x6, x7, x8, x9, x10, x11, e, hF⟩ => ?_, fun env2 ⟨ls, x4, x6, x7, x8, x9, x10, x11, e, hL⟩ => ?_⟩
  rotate_left
  · rw [rng_len] at hL
    exact ⟨ls, _, _, _, _, _, _, _, e, hL⟩
  subst e
  obtain ⟨ht', rfl⟩ := rng_get hz
  walk_at "ys"
  refine s_newLcE [("place", 4)] (by kernel_rfl) ?_ (by walk_at "yk") (by walk_at "yi") (by intro _ _; rfl) (by rfl) (by rfl)
  refine it_tup ?_
  walk_at "ys"
  refine ⟨_, rfl, by rw [List.length_map, hs.len]; omega, fun _ _ _ => trivial, fun z _ => ⟨_, by walk_at "ybd", by simp⟩, fun w2 => ?_⟩
  rw [List.length_map, hs.len, show List.replicate m (O.l []) = (List.replicate m ([] : List (U b))).map mrO by rw [List.map_replicate]; rfl]
  walk_at "yx"
  walk_at "yz"
  have hN := Lt.nil (R := R) (m := m) (a := a) (t := t)
  generalize List.replicate m ([] : List (U b)) = ls1 at hN ⊢
  -- over the places
  refine r_cut (fun env2 => ∃ ls x4 x8 x9 x10 x11, env2 = ⟨[some (grU R), some (.int many), some (.int a), some (.int b), x4, some (.lst (fs.map mrD)), some (.int t), some (.raw w2), x8, x9, x10, x11], [(w2, .l (ls.map mrO))]⟩ ∧ Lt R m a t (Cm R fs m) ls) ?_ fun env2 ⟨ls, x4, x8, x9, x10, x11, e, hL⟩ => ?_
  rotate_left
  · subst e
    refine r_cons ?_
    walk_at "yset"
    walk_at "ye"
    walk_at "yx"
    walk_at "yz"
    refine r_frzV (x := "found") (by walk_at "yl") (by walk_at "yp") (by walk_at "yt") ?_
    simp only [O.fz, fzs_mrO]
    walk_at "ys"
    exact ⟨ls, _, _, _, _, _, _, _, rfl, hL.done hs hF⟩
  refine s_for ?_ (by intro _ _; rfl)
  refine it_enumL m2 (by walk_at "yk") ?_ (by intro _; rfl)
  walk_at "ys"
  refine ⟨_, rfl, fun p env2 => ∃ ls x4 x8 x9 x10 x11, env2 = ⟨[some (grU R), some (.int many), some (.int a), some (.int b), x4, some (.lst (fs.map mrD)), some (.int t), some (.raw w2), x8, x9, x10, x11], [(w2, .l (ls.map mrO))]⟩ ∧ Lt R m a t (Cm R fs p) ls, ?_, fun _ _ _ _ => trivial, fun p z env2 hz ⟨ls, x4, x8, x9, x10, x11, e, hL⟩ => ?_, fun env2 ⟨ls, x4, x8, x9, x10, x11, e, hL⟩ => ?_⟩
  · exact ⟨ls1, _, _, _, _, _, rfl, hN.imp fun q w ⟨_, _, _, _, h, _⟩ => absurd h (by omega)⟩
  rotate_left
  · rw [enumD_length, List.length_map, hF.len] at hL
    exact ⟨ls, _, _, _, _, _, e, hL⟩
  subst e
  obtain ⟨z, hz1, rfl⟩ := enumD_get hz
  obtain ⟨l, hl, rfl⟩ := map_get hz1
  have hpm : p < m := by rw [← hF.len]; exact (List.getElem?_eq_some_iff.mp hl).1
  have hMt := hF.at_ p l hl
  obtain ⟨r, hr, _⟩ := cell_at hs hpm hpm
  have hrl := hs.row r (List.mem_of_getElem? hr)
  walk_at "ys"
  refine s_for ?_ (by intro _ _; rfl)
  refine it_enum m2 (by walk_at "yk") ?_ (by intro _; rfl)
  simp only [grU]
  walk_at "ys"
  refine ⟨_, _, rfl, ixD_nat (z := rwU r) (by rw [List.getElem?_map, hr]; rfl), ?_⟩
  refine ⟨_, rfl, fun q env2 => ∃ ls x9 x10 x11, env2 = ⟨[some (grU R), some (.int many), some (.int a), some (.int b), some (.int p), some (.lst (fs.map mrD)), some (.int t), some (.raw w2), some (mrD l), x9, x10, x11], [(w2, .l (ls.map mrO))]⟩ ∧ Lt R m a t (fun q' v => Cm R fs p q' v ∨ (q' < q ∧ ∃ w c, w ∈ l ∧ tie R p q' = some c ∧ v = w + c)) ls, ?_, fun _ _ _ _ => trivial, fun q z env2 hz ⟨ls, x9, x10, x11, e, hL⟩ => ?_, fun env2 ⟨ls, x9, x10, x11, e, hL⟩ => ?_⟩
  · exact ⟨ls, _, _, _, rfl, hL.imp fun q w h => by
      rcases h with h | ⟨h, _⟩
      · exact h
      · exact absurd h (by omega)⟩
  rotate_left
  · subst e
    walk_at "ys"
    rw [enumD_length, List.length_map, hrl] at hL
    refine ⟨ls, _, _, _, _, _, rfl, hL.imp fun q v ⟨p', l', w, c, h1, h2, h3, h4, h5⟩ => ?_⟩
    by_cases hp : p' < p
    · exact .inl ⟨p', l', w, c, hp, h2, h3, h4, h5⟩
    · obtain rfl : p' = p := by omega
      rw [hl] at h2
      cases h2
      exact .inr ⟨(tie_lt hs h4).2, w, c, h3, h4, h5⟩
  subst e
  obtain ⟨z, hz1, rfl⟩ := enumD_get hz
  obtain ⟨cc, hc, rfl⟩ := map_get hz1
  have hqm : q < m := by rw [← hrl]; exact (List.getElem?_eq_some_iff.mp hc).1
  have hct : tie R p q = cc := by
    obtain ⟨r', h1, h2⟩ := cell_at hs hpm hqm
    rw [hr] at h1
    cases h1
    rw [hc] at h2
    cases h2
    rfl
  walk_at "ys"
  rw [isNon_clU2]
  cases cc with
  | none =>
    walk_at "ys"
    refine ⟨ls, _, _, _, rfl, hL.imp fun q' v h => ?_⟩
    rcases h with h | ⟨h1, w, c, h2, h3, h4⟩
    · exact .inl h
    · by_cases hq : q' < q
      · exact .inr ⟨hq, w, c, h2, h3, h4⟩
      · obtain rfl : q' = q := by omega
        rw [hct] at h3
        cases h3
  | some c =>
    have hcb := ht p q c hct
    walk_at "ys"
    refine s_for ?_ (by intro _ _; rfl)
    refine it_lst ?_
    walk_at "ys"
    refine ⟨_, rfl, fun n env2 => ∃ ls x11, env2 = ⟨[some (grU R), some (.int many), some (.int a), some (.int b), some (.int p), some (.lst (fs.map mrD)), some (.int t), some (.raw w2), some (mrD l), some (.int q), some (uD c), x11], [(w2, .l (ls.map mrO))]⟩ ∧ Lt R m a t (fun q' v => (Cm R fs p q' v ∨ (q' < q ∧ ∃ w c, w ∈ l ∧ tie R p q' = some c ∧ v = w + c)) ∨ (q' = q ∧ ∃ i w, i < n ∧ l[i]? = some w ∧ v = w + c)) ls, ?_, fun _ _ _ _ => trivial, fun n z env2 hz ⟨ls, x11, e, hL⟩ => ?_, fun env2 ⟨ls, x11, e, hL⟩ => ?_⟩
    · exact ⟨ls, _, rfl, hL.imp fun q w h => by
        rcases h with h | ⟨_, _, _, h, _⟩
        · exact h
        · exact absurd h (by omega)⟩
    rotate_left
    · subst e
      walk_at "ys"
      rw [List.length_map] at hL
      refine ⟨ls, _, _, _, rfl, hL.imp fun q' v h => ?_⟩
      rcases h with h | ⟨h1, w, c', h2, h3, h4⟩
      · exact .inl (.inl h)
      · by_cases hq : q' < q
        · exact .inl (.inr ⟨hq, w, c', h2, h3, h4⟩)
        · obtain rfl : q' = q := by omega
          rw [hct] at h3
          cases h3
          obtain ⟨i, hi⟩ := List.mem_iff_getElem?.mp h2
          exact .inr ⟨rfl, i, w, (List.getElem?_eq_some_iff.mp hi).1, hi, h4⟩
    subst e
    obtain ⟨w, hw, rfl⟩ := map_get hz
    have hwk := hMt.ok w (List.mem_of_getElem? hw)
    have hwb := hwk.bt ht
    have hql : q < ls.length := by rw [hL.len]; exact hqm
    obtain ⟨lq, hlq⟩ : ∃ lq, ls[q]? = some lq := ⟨_, List.getElem?_eq_getElem hql⟩
    walk_at "ygs"
    refine r_cons ?_
    refine s_expr ?_ (by intro _; rfl)
    walk_at "yc"
    refine ea_sub ?_
    refine e_ixB ?_ (by intro _ _; rfl)
    walk_at "ys"
    refine ⟨_, _, _, q, mrO lq, _, rfl, rfl, .hd, ixN_nat (by rw [List.length_map]; exact hql), by rw [List.getElem?_map, hlq]; rfl, fun v => ?_⟩
    walk_at "ys"
    walk_at "yn"
    refine ⟨w.1, c.1, rfl, rfl, by rw [w.2, c.2], by rw [w.2]; omega, hwb.uz (by omega), hcb.uz (by decide), ?_⟩
    walk_at "yd"
    walk_at "ys"
    walk_at "yn1"
    refine ⟨v, b, lq.map fun v => (v, []), (w + c, []), rfl, ?_, by rw [List.length_map]; exact (hL.at_ q lq hlq).1, ?_⟩
    · unfold mrO
      rw [List.map_map]
      rfl
    rw [putU_W, List.map_map]
    walk_at "yd"
    refine r_back (w := w2) .hd .hd (.l (j := q) (by rw [List.getElem?_set_self (by rw [List.length_map]; exact hql)])) ?_
    rw [List.set_set]
    walk_at "ys"
    refine ⟨ls.set q (putW lq (w + c)), some (.tup [uD w]), ?_, (hL.put hlq (WkN.succ.mpr ⟨p, w, c, hwk, hct, rfl⟩)).imp fun q' v h => ?_⟩
    · rw [List.map_set]
      rfl
    · rcases h with h | ⟨h1, i, w', h2, h3, h4⟩
      · exact .inl (.inl h)
      · by_cases hi : i < n
        · exact .inl (.inr ⟨h1, i, w', hi, h3, h4⟩)
        · obtain rfl : i = n := by omega
          rw [hw] at h3
          cases h3
          exact .inr ⟨h1, h4⟩

set_option maxHeartbeats 4000000
theorem cz_lenM {c : Ctx} {env : Ev} {b : Nat} {l : List (U b)} {Φ : D → Prop} (h : Φ (.int l.length)) : ∃ ys, Seens env [mrD l] ys ∧ Cb c (.builtin "len") ys Φ := by
  refine cz_lenL ?_
  rw [List.length_map]
  exact h
def S_power_verdict (C : Addr) : Spec := fun zs rs P _ => ∃ (b m many i j : Nat) (R : GR b), zs = [gD C R, .int many, .int i, .int j] ∧ rs = [] ∧ Gv m m R ∧ 1 ≤ many ∧ many ≤ 200 ∧ i < m ∧ j < m ∧ ∀ l, Mt R m i many j l → P (.s (vdD l)) []
theorem f_power_verdict {g : Pg} {C f : Addr} (G : GridC g C f) (hd : Dx g "power_verdict" st_power_verdict) (f1 : Fn g "check_square_grid" 1 (S_check_square_grid C)) (f2 : Fn g "check_number" 3 S_check_number) (f3 : Fn g "check_cell" 3 S_check_cell) (f4 : Fn g "power_marks" 5 S_power_marks) (m1 : g.mg "len" = none) (m2 : Gc g "MOST_VERDICT" (.int 200)) : Fn g "power_verdict" 6 (S_power_verdict C) := by
  refine fm_power_verdict hd (fun zs rs P P2 h => by obtain ⟨b, m, many, i, j, R, rfl, _⟩ := h; rfl) fun zs rs P P2 h => ?_
  obtain ⟨b, m, many, i, j, R, rfl, rfl, hg, h1, h2, hi, hj, hP⟩ := h
  have hs := hg.sq
  have hb := hg.hb
  have hm := hg.n2
  walk_at "y0"
  walk_at "ys"
  walk_at "yn"
  refine ⟨b, m, R, rfl, rfl, hg, ?_⟩
  walk_at "yd"
  walk_at "ys"
  walk_at "yn"
  refine ⟨many, 1, 200, rfl, rfl, by omega, by omega, ?_⟩
  walk_at "yd"
  walk_at "ys"
  refine ⟨_, _, _, _, _, rfl, G.cls, G.n2, rfl, rfl, ?_⟩
  walk_at "ys"
  refine ⟨_, _, _, _, _, rfl, G.cls, G.n2, rfl, rfl, ?_⟩
  walk_at "ys"
  walk_at "yn"
  refine ⟨m, m, i, j, by rw [hs.len], rfl, hi, hj, ?_⟩
  walk_at "yd"
  walk_at "yS"
  refine ⟨_, _, _, _, _, rfl, G.cls, G.n2, rfl, rfl, ?_⟩
  walk_at "ys"
  refine ⟨_, _, _, _, _, rfl, G.cls, G.n1, rfl, rfl, ?_⟩
  walk_at "ys"
  walk_at "yn"
  refine ⟨b, m, many, i, R, rfl, rfl, hs, hm, hg.tb, by omega, hi, h2, fun ls hL => ?_⟩
  obtain ⟨l, hl⟩ : ∃ l, ls[j]? = some l := ⟨_, List.getElem?_eq_getElem (by rw [hL.len]; exact hj)⟩
  have hM := hL.at_ j l hl
  walk_at "yd"
  walk_at "ys"
  refine ⟨_, _, rfl, ixD_nat (z := mrD l) (by rw [List.getElem?_map, hl]; rfl), ?_⟩
  walk_at "ys"
  refine cz_lenM ?_
  have hP := hP l hM
  have h2 := hM.two
  match l, h2, hP with
  | [], _, hP =>
    walk_at "ys"
    exact fin_nil hP
  | [x], _, hP =>
    walk_at "ys"
    refine cz_lenM ?_
    walk_at "ys"
    exact fin_nil hP
  | [x, y], _, hP =>
    walk_at "ys"
    refine cz_lenM ?_
    walk_at "ys"
    exact fin_nil hP
  | _ :: _ :: _ :: _, h, _ => simp at h

set_option maxHeartbeats 4000000
/-! the law's own steps -/
def wtD {b : Nat} (l : List (U b)) : D := .lst (l.map fun w => uD w)
def wtL {b : Nat} (l : List (U b)) : O := .l ((l.map fun w => uD w).map O.s)
theorem fz_wtL {b : Nat} (l : List (U b)) : (wtL l).fz = wtD l := by
  unfold wtL wtD
  simp only [O.fz, fzs_map]
theorem fzs_wtL {b : Nat} : ∀ ls : List (List (U b)), O.fzs (ls.map wtL) = ls.map wtD
  | [] => by simp [O.fzs]
  | l :: ls => by simp only [List.map_cons, O.fzs, fz_wtL, fzs_wtL ls]
theorem putW_def {b : Nat} {l : List (U b)} {w : U b} (h : l.length ≤ 2) : putW l w = if l.length < 2 ∧ w ∉ l then l ++ [w] else l := by
  match l, h with
  | [], _ => simp [putW]
  | [y], _ =>
    by_cases e : y = w
    · simp [putW, e]
    · have e2 : ¬ w = y := fun z => e z.symm
      simp [putW, e, e2]
  | [y, z], _ => simp [putW]
  | _ :: _ :: _ :: _, h => simp at h
def S_law_steps_on : Spec := fun zs rs P _ => ∃ (b m a : Nat) (R : GR b), zs = [.tup [.int b, grU R], .int a] ∧ rs = [] ∧ Sq R m ∧ m ≤ 10 ∧ b ≤ 10 ∧ a < m ∧ ∀ ls, Ml R m a 0 ls → P (.s (.lst (ls.map wtD))) []
theorem f__law_steps_on {g : Pg} (hd : Dx g "_law_steps_on" st__law_steps_on) (f1 : Fn g "_law_unitless" 1 S_law_unitless) : Fn g "_law_steps_on" 2 S_law_steps_on := by
  refine fm__law_steps_on hd (fun zs rs P P2 h => by obtain ⟨b, m, a, R, rfl, _⟩ := h; rfl) fun zs rs P P2 h => ?_
  obtain ⟨b, m, a, R, rfl, rfl, hs, hm, hb, ha, hP⟩ := h
  walk_at "y0"
  refine s_newLcE [("_law_row", 3)] (by kernel_rfl) ?_ (by walk_at "yk") (by walk_at "yi") (by intro _ _; rfl) (by rfl) (by rfl)
  refine it_tup ?_
  walk_at "ys"
  refine ⟨_, rfl, by rw [List.length_map, hs.len]; omega, fun _ _ _ => trivial, fun z _ => ⟨_, by walk_at "ybd", by simp⟩, fun w0 => ?_⟩
  rw [List.length_map, hs.len]
  walk_at "yx"
  walk_at "yz"
  walk_at "yS"
  walk_at "yn"
  refine ⟨b, rfl, rfl, by omega, ?_⟩
  walk_at "yd"
  walk_at "yS"
  refine ⟨_, _, _, a, _, rfl, rfl, .hd, ixN_nat (by simpa using ha), ?_⟩
  walk_at "yz"
  have hL0 := Ml.start (R := R) ha
  refine r_frzV (x := "_law_found") (by walk_at "yl") (by walk_at "yp") (by walk_at "yt") ?_
  simp only [O.fz, fz_emp_set, fzs_map]
  rw [show (List.replicate m (D.lst [])).set a (.lst [uD (0 : U b)]) = (((List.replicate m ([] : List (U b))).set a [0]).map wtD) by rw [List.map_set, List.map_replicate]; rfl]
  walk_at "ys"
  exact fin_nil (hP _ hL0)
def S_law_next : Spec := fun zs rs P _ => ∃ (b m a t : Nat) (R : GR b) (fs : List (List (U b))), zs = [.tup [.int b, grU R], .lst (fs.map wtD)] ∧ rs = [] ∧ Sq R m ∧ m ≤ 10 ∧ Tb R 72 ∧ b ≤ 10 ∧ t ≤ 400 ∧ Ml R m a t fs ∧ ∀ ls, Ml R m a (t + 1) ls → P (.s (.lst (ls.map wtD))) []
theorem f__law_next {g : Pg} (hd : Dx g "_law_next" st__law_next) (f1 : Fn g "_law_unit_sum" 3 S_law_unit_sum) (m1 : g.mg "len" = none) (m2 : g.mg "enumerate" = none) : Fn g "_law_next" 4 S_law_next := by
  refine fm__law_next hd (fun zs rs P P2 h => by obtain ⟨b, m, a, t, R, fs, rfl, _⟩ := h; rfl) fun zs rs P P2 h => ?_
  obtain ⟨b, m, a, t, R, fs, rfl, rfl, hs, hm, ht, hb, htt, hF, hP⟩ := h
  walk_at "y0"
  refine s_newLcE [("_law_row", 9)] (by kernel_rfl) ?_ (by walk_at "yk") (by walk_at "yi") (by intro _ _; rfl) (by rfl) (by rfl)
  refine it_tup ?_
  walk_at "ys"
  refine ⟨_, rfl, by rw [List.length_map, hs.len]; omega, fun _ _ _ => trivial, fun z _ => ⟨_, by walk_at "ybd", by simp⟩, fun w2 => ?_⟩
  rw [List.length_map, hs.len, show List.replicate m (O.l []) = (List.replicate m ([] : List (U b))).map wtL by rw [List.map_replicate]; rfl]
  walk_at "yx"
  walk_at "yz"
  have hN := Lt.nil (R := R) (m := m) (a := a) (t := t)
  generalize List.replicate m ([] : List (U b)) = ls1 at hN ⊢
  refine r_cut (fun env2 => ∃ ls x3 x4 x5 x6 x7 x8, env2 = ⟨[some (.tup [.int b, grU R]), some (.lst (fs.map wtD)), some (.raw w2), x3, x4, x5, x6, x7, x8, none], [(w2, .l (ls.map wtL))]⟩ ∧ Lt R m a t (Cm R fs m) ls) ?_ fun env2 ⟨ls, x3, x4, x5, x6, x7, x8, e, hL⟩ => ?_
  rotate_left
  · subst e
    refine r_frzV (x := "_law_later") (by walk_at "yl") (by walk_at "yp") (by walk_at "yt") ?_
    simp only [O.fz, fzs_wtL]
    walk_at "ys"
    exact fin_nil (hP _ (hL.done hs hF))
  refine s_for ?_ (by intro _ _; rfl)
  refine it_enumL m2 (by walk_at "yk") ?_ (by intro _; rfl)
  walk_at "ys"
  refine ⟨_, rfl, fun p env2 => ∃ ls x3 x4 x5 x6 x7 x8, env2 = ⟨[some (.tup [.int b, grU R]), some (.lst (fs.map wtD)), some (.raw w2), x3, x4, x5, x6, x7, x8, none], [(w2, .l (ls.map wtL))]⟩ ∧ Lt R m a t (Cm R fs p) ls, ?_, fun _ _ _ _ => trivial, fun p z env2 hz ⟨ls, x3, x4, x5, x6, x7, x8, e, hL⟩ => ?_, fun env2 ⟨ls, x3, x4, x5, x6, x7, x8, e, hL⟩ => ?_⟩
  · exact ⟨ls1, _, _, _, _, _, _, rfl, hN.imp fun q w ⟨_, _, _, _, h, _⟩ => absurd h (by omega)⟩
  rotate_left
  · rw [enumD_length, List.length_map, hF.len] at hL
    exact ⟨ls, _, _, _, _, _, _, e, hL⟩
  subst e
  obtain ⟨z, hz1, rfl⟩ := enumD_get hz
  obtain ⟨l, hl, rfl⟩ := map_get hz1
  have hpm : p < m := by rw [← hF.len]; exact (List.getElem?_eq_some_iff.mp hl).1
  have hMt := hF.at_ p l hl
  obtain ⟨r, hr, _⟩ := cell_at hs hpm hpm
  have hrl := hs.row r (List.mem_of_getElem? hr)
  walk_at "ys"
  refine s_for ?_ (by intro _ _; rfl)
  refine it_enum m2 (by walk_at "yk") ?_ (by intro _; rfl)
  walk_at "ys"
  refine ⟨_, _, rfl, ixD_nat (z := rwU r) (by rw [List.getElem?_map, hr]; rfl), ?_⟩
  refine ⟨_, rfl, fun q env2 => ∃ ls x5 x6 x7 x8, env2 = ⟨[some (.tup [.int b, grU R]), some (.lst (fs.map wtD)), some (.raw w2), some (.int p), some (wtD l), x5, x6, x7, x8, none], [(w2, .l (ls.map wtL))]⟩ ∧ Lt R m a t (fun q' v => Cm R fs p q' v ∨ (q' < q ∧ ∃ w c, w ∈ l ∧ tie R p q' = some c ∧ v = w + c)) ls, ?_, fun _ _ _ _ => trivial, fun q z env2 hz ⟨ls, x5, x6, x7, x8, e, hL⟩ => ?_, fun env2 ⟨ls, x5, x6, x7, x8, e, hL⟩ => ?_⟩
  · exact ⟨ls, _, _, _, _, rfl, hL.imp fun q w h => by
      rcases h with h | ⟨h, _⟩
      · exact h
      · exact absurd h (by omega)⟩
  rotate_left
  · subst e
    walk_at "ys"
    rw [enumD_length, List.length_map, hrl] at hL
    refine ⟨ls, _, _, _, _, _, _, rfl, hL.imp fun q v ⟨p', l', w, c, h1, h2, h3, h4, h5⟩ => ?_⟩
    by_cases hp : p' < p
    · exact .inl ⟨p', l', w, c, hp, h2, h3, h4, h5⟩
    · obtain rfl : p' = p := by omega
      rw [hl] at h2
      cases h2
      exact .inr ⟨(tie_lt hs h4).2, w, c, h3, h4, h5⟩
  subst e
  obtain ⟨z, hz1, rfl⟩ := enumD_get hz
  obtain ⟨cc, hc, rfl⟩ := map_get hz1
  have hqm : q < m := by rw [← hrl]; exact (List.getElem?_eq_some_iff.mp hc).1
  have hct : tie R p q = cc := by
    obtain ⟨r', h1, h2⟩ := cell_at hs hpm hqm
    rw [hr] at h1
    cases h1
    rw [hc] at h2
    cases h2
    rfl
  walk_at "ys"
  rw [isNon_clU2]
  cases cc with
  | none =>
    walk_at "ys"
    refine ⟨ls, _, _, _, _, rfl, hL.imp fun q' v h => ?_⟩
    rcases h with h | ⟨h1, w, c, h2, h3, h4⟩
    · exact .inl h
    · by_cases hq : q' < q
      · exact .inr ⟨hq, w, c, h2, h3, h4⟩
      · obtain rfl : q' = q := by omega
        rw [hct] at h3
        cases h3
  | some c =>
    have hcb := ht p q c hct
    walk_at "ys"
    refine s_for ?_ (by intro _ _; rfl)
    refine it_lst ?_
    walk_at "ys"
    refine ⟨_, rfl, fun n env2 => ∃ ls x7 x8, env2 = ⟨[some (.tup [.int b, grU R]), some (.lst (fs.map wtD)), some (.raw w2), some (.int p), some (wtD l), some (.int q), some (uD c), x7, x8, none], [(w2, .l (ls.map wtL))]⟩ ∧ Lt R m a t (fun q' v => (Cm R fs p q' v ∨ (q' < q ∧ ∃ w c, w ∈ l ∧ tie R p q' = some c ∧ v = w + c)) ∨ (q' = q ∧ ∃ i w, i < n ∧ l[i]? = some w ∧ v = w + c)) ls, ?_, fun _ _ _ _ => trivial, fun n z env2 hz ⟨ls, x7, x8, e, hL⟩ => ?_, fun env2 ⟨ls, x7, x8, e, hL⟩ => ?_⟩
    · exact ⟨ls, _, _, rfl, hL.imp fun q w h => by
        rcases h with h | ⟨_, _, _, h, _⟩
        · exact h
        · exact absurd h (by omega)⟩
    rotate_left
    · subst e
      walk_at "ys"
      rw [List.length_map] at hL
      refine ⟨ls, _, _, _, _, rfl, hL.imp fun q' v h => ?_⟩
      rcases h with h | ⟨h1, w, c', h2, h3, h4⟩
      · exact .inl (.inl h)
      · by_cases hq : q' < q
        · exact .inl (.inr ⟨hq, w, c', h2, h3, h4⟩)
        · obtain rfl : q' = q := by omega
          rw [hct] at h3
          cases h3
          obtain ⟨i, hi⟩ := List.mem_iff_getElem?.mp h2
          exact .inr ⟨rfl, i, w, (List.getElem?_eq_some_iff.mp hi).1, hi, h4⟩
    subst e
    obtain ⟨w, hw, rfl⟩ := map_get hz
    have hwk := hMt.ok w (List.mem_of_getElem? hw)
    have hwb := hwk.bt ht
    have hql : q < ls.length := by rw [hL.len]; exact hqm
    obtain ⟨lq, hlq⟩ : ∃ lq, ls[q]? = some lq := ⟨_, List.getElem?_eq_getElem hql⟩
    have hl2 := (hL.at_ q lq hlq).1
    have hput := (hL.put hlq (WkN.succ.mpr ⟨p, w, c, hwk, hct, rfl⟩)).imp (S' := fun q' v => (Cm R fs p q' v ∨ (q' < q ∧ ∃ w c, w ∈ l ∧ tie R p q' = some c ∧ v = w + c)) ∨ (q' = q ∧ ∃ i w, i < n + 1 ∧ l[i]? = some w ∧ v = w + c)) fun q' v h => by
      rcases h with h | ⟨h1, i, w', h2, h3, h4⟩
      · exact .inl (.inl h)
      · by_cases hi : i < n
        · exact .inl (.inr ⟨h1, i, w', hi, h3, h4⟩)
        · obtain rfl : i = n := by omega
          rw [hw] at h3
          cases h3
          exact .inr ⟨h1, h4⟩
    walk_at "ys"
    walk_at "yn"
    refine ⟨b, w, c, true, rfl, rfl, by omega, hwb.uz (by omega), hcb.uz (by decide), ?_⟩
    simp only [if_true]
    walk_at "yd"
    rw [putW_def hl2] at hput
    walk_at "yx"
    refine r_cons ?_
    refine s_if (TW.t (tw_and (t_cmp ?_ (by rfl))))
    have hset : (ls.map wtL)[q]? = some (wtL lq) := by rw [List.getElem?_map, hlq]; rfl
    have hqw : q < (ls.map wtL).length := by rw [List.length_map]; exact hql
    refine e_back ?_
    walk_at "yb"
    refine ea_sub ?_
    refine e_ixB ?_ (by intro _ _; rfl)
    walk_at "ys"
    refine ⟨_, _, _, q, wtL lq, _, rfl, rfl, .hd, ixN_nat hqw, hset, fun v => ?_⟩
    walk_at "ys"
    refine cz_lenR .hd ?_
    refine ⟨v, _, _, w2, _, _, _, .hd, .hd, .l (j := q) (by rw [List.getElem?_set_self hqw]), ?_⟩
    rw [List.set_set, set_same hset, List.length_map, List.length_map]
    walk_at "ys"
    by_cases hlt : lq.length < 2
    rotate_left
    · rw [if_neg (fun h => hlt h.1), set_same hlq] at hput
      rw [decide_eq_false (show ¬ ((lq.length : Int) < 2) by omega)]
      walk_at "ys"
      exact ⟨ls, _, _, rfl, hput⟩
    rw [decide_eq_true (show ((lq.length : Int) < 2) by omega)]
    refine br_t rfl ?_
    refine tw_and1 (t_notinL ?_ (by rfl))
    walk_at "ye"
    refine e_ixB ?_ (by intro _ _; rfl)
    walk_at "ys"
    refine ⟨_, _, _, q, wtL lq, _, rfl, rfl, .hd, ixN_nat hqw, hset, fun v2 => ?_⟩
    walk_at "ys"
    refine ⟨_, 2, seen_l .hd, .un _, ?_, by decide, ?_⟩
    · rw [fzs_map]
      intro z hz
      obtain ⟨u, _, rfl⟩ := List.mem_map.mp hz
      exact .un _
    rw [fzs_map, isIn_uD]
    by_cases hin : w + c ∈ lq
    · rw [if_neg (fun h => h.2 hin), set_same hlq] at hput
      rw [decide_eq_true hin]
      refine br_f rfl ?_
      refine r_back (w := w2) .hd .hd (.l (j := q) (by rw [List.getElem?_set_self hqw])) ?_
      rw [List.set_set, set_same hset]
      walk_at "ys"
      exact ⟨ls, _, _, rfl, hput⟩
    · rw [if_pos ⟨hlt, hin⟩] at hput
      rw [decide_eq_false hin]
      refine br_t rfl ?_
      refine r_back (w := w2) .hd .hd (.l (j := q) (by rw [List.getElem?_set_self hqw])) ?_
      rw [List.set_set, set_same hset]
      refine r_cons ?_
      refine s_expr ?_ (by intro _; rfl)
      refine e_append ?_ ⟨by intro _; rfl, by intro _; rfl, by rfl, by intro _; rfl, by intro _; rfl⟩
      refine e_ixB ?_ (by intro _ _; rfl)
      walk_at "ys"
      refine ⟨_, _, _, q, wtL lq, _, rfl, rfl, .hd, ixN_nat hqw, hset, fun v3 => ?_⟩
      refine ⟨v3, _, _, rfl, .hd, ?_⟩
      refine E.toO ?_
      walk_at "ys"
      refine ⟨_, _, .hd, by rw [List.length_map, List.length_map]; omega, ?_⟩
      walk_at "yz"
      refine r_back (w := w2) .hd .hd (.l (j := q) (by rw [List.getElem?_set_self hqw])) ?_
      rw [List.set_set]
      walk_at "ys"
      refine ⟨ls.set q (lq ++ [w + c]), some (uD w), some (uD (w + c)), ?_, hput⟩
      rw [List.map_set]
      simp only [wtL, List.map_append, List.map_cons, List.map_nil]

set_option maxHeartbeats 4000000
theorem all_at {α : Type} {f : α → D} : ∀ {ys : List D} {Q : Nat → α → Prop}, (∀ k y, ys[k]? = some y → ∃ x, y = f x ∧ Q k x) → ∃ xs : List α, ys = xs.map f ∧ ∀ k x, xs[k]? = some x → Q k x
  | [], Q, h => ⟨[], rfl, fun k x h => by simp at h⟩
  | y :: ys, Q, h => by
    obtain ⟨x, rfl, h1⟩ := h 0 y rfl
    obtain ⟨xs, rfl, h2⟩ := all_at (ys := ys) (Q := fun k => Q (k + 1)) fun k y e => h (k + 1) y (by simpa using e)
    refine ⟨x :: xs, rfl, fun k z e => ?_⟩
    cases k with
    | zero => cases e; exact h1
    | succ k => exact h2 k z (by simpa using e)
/-- the layers of all starts -/
structure La {b : Nat} (R : GR b) (m t : Nat) (lss : List (List (List (U b)))) : Prop where
  len : lss.length = m
  at_ : ∀ a ls, lss[a]? = some ls → Ml R m a t ls
def lyD {b : Nat} (ls : List (List (U b))) : D := .lst (ls.map wtD)
def two_ {b : Nat} (lss : List (List (List (U b)))) : Bool := lss.any fun ls => ls.any fun l => decide (1 < (l.length : Int))
theorem La.two {b m t : Nat} {R : GR b} {lss : List (List (List (U b)))} (s : Sq R m) (h : La R m t lss) : two_ lss = true ↔ UnAt R m t := by
  rw [unAt_iff]
  unfold two_
  constructor
  · intro e
    obtain ⟨ls, h1, e⟩ := List.any_eq_true.mp e
    obtain ⟨l, h2, e⟩ := List.any_eq_true.mp e
    obtain ⟨a, ha⟩ := List.mem_iff_getElem?.mp h1
    obtain ⟨q, hq⟩ := List.mem_iff_getElem?.mp h2
    have hM := (h.at_ a ls ha).at_ q l hq
    have e := of_decide_eq_true e
    match l, hM, e with
    | [], _, e => simp at e
    | [_], _, e => simp at e
    | w :: v :: r, hM, _ => exact ⟨a, q, w, v, hM.ok w (by simp), hM.ok v (by simp), by have := hM.nd; simp at this; exact this.1.1⟩
  · rintro ⟨a, q, w, v, h1, h2, hn⟩
    obtain ⟨ha, hq⟩ := h1.lt s
    obtain ⟨ls, hl⟩ : ∃ ls, lss[a]? = some ls := ⟨_, List.getElem?_eq_getElem (by rw [h.len]; exact ha)⟩
    have hML := h.at_ a ls hl
    obtain ⟨l, hl2⟩ : ∃ l, ls[q]? = some l := ⟨_, List.getElem?_eq_getElem (by rw [hML.len]; exact hq)⟩
    have := (hML.at_ q l hl2).two_of h1 h2 hn
    exact List.any_eq_true.mpr ⟨ls, List.mem_of_getElem? hl, List.any_eq_true.mpr ⟨l, List.mem_of_getElem? hl2, decide_eq_true (by omega)⟩⟩
theorem cz_lenW2 {c : Ctx} {env : Ev} {b : Nat} {l : List (U b)} {Φ : D → Prop} (h : Φ (.int l.length)) : ∃ ys, Seens env [wtD l] ys ∧ Cb c (.builtin "len") ys Φ := by
  refine cz_lenL ?_
  rw [List.length_map]
  exact h
def S_law_shortest : Spec := fun zs rs P _ => ∃ (b m : Nat) (R : GR b), zs = [.tup [.int b, grU R]] ∧ rs = [] ∧ Sq R m ∧ 1 ≤ m ∧ m ≤ 10 ∧ Tb R 72 ∧ b ≤ 10 ∧ (Uniq R m → P (.s .non) []) ∧ ∀ t : Nat, UnAt R m t → (∀ t', t' < t → ¬ UnAt R m t') → P (.s (.int t)) []
theorem f__law_shortest {g : Pg} (hd : Dx g "_law_shortest" st__law_shortest) (f1 : Fn g "_law_steps_on" 2 S_law_steps_on) (f2 : Fn g "_law_next" 4 S_law_next) (m1 : g.mg "len" = none) (m2 : g.mg "range" = none) (m3 : g.mg "any" = none) : Fn g "_law_shortest" 5 S_law_shortest := by
  refine fm__law_shortest hd (fun zs rs P P2 h => by obtain ⟨b, m, R, rfl, _⟩ := h; rfl) fun zs rs P P2 h => ?_
  obtain ⟨b, m, R, rfl, rfl, hs, hm1, hm, ht, hb, hP1, hP2⟩ := h
  walk_at "y0"
  walk_at "ys"
  rw [hs.len]
  refine s_setLcD [("_law_start", 4)] (by kernel_rfl) ?_ (by walk_at "yk") (by walk_at "yi") (by intro _ _; rfl) (by rfl) (by rfl)
  refine it_rng m2 (by walk_at "yk") ?_ (by intro _; rfl)
  walk_at "ys"
  refine ⟨_, rfl, by omega, fun rs => rs = [], fun a y => ∃ ls : List (List (U b)), y = lyD ls ∧ Ml R m a 0 ls, rfl, by simp; omega, fun _ _ _ _ _ => trivial, fun k z rs hz e => ?_, fun ys rs hl hp e => ?_⟩
  · subst e
    obtain ⟨hk, rfl⟩ := rng_get hz
    refine ⟨_, by walk_at "ybd", by simp, ?_⟩
    walk_at "yw"
    walk_at "ys"
    walk_at "yn"
    refine ⟨b, m, k, R, rfl, rfl, hs, hm, hb, hk, fun ls hL => ?_⟩
    exact ⟨⟨ls, rfl, hL⟩, rfl⟩
  subst e
  obtain ⟨lss, rfl, hlss⟩ := all_at hp
  have hLa : La R m 0 lss := ⟨by simpa using hl, hlss⟩
  clear hp hl hlss
  walk_at "yx"
  walk_at "yz"
  have hn0 : ¬ UnAt R m 0 := by
    intro ⟨z, w, h1, h2⟩
    cases h1
    exact h2 rfl
  have hmm : m * m ≤ 10 * 10 := Nat.mul_le_mul hm hm
  have h3m : (3 * (m : Int)) * (m : Int) = ((3 * (m * m) : Nat) : Int) := by
    rw [Int.mul_assoc, Int.natCast_mul, Int.natCast_mul]; rfl
  refine r_cut (fun env2 => ∃ x2 x3 x4 x5 x6, env2 = ⟨[some (.tup [.int b, grU R]), some (.int m), x2, x3, x4, x5, x6], []⟩ ∧ Uniq R m) ?_ fun env2 ⟨x2, x3, x4, x5, x6, e, hU⟩ => ?_
  rotate_left
  · subst e
    walk_at "ys"
    exact fin_nil (hP1 hU)
  refine s_for ?_ (by intro _ _; rfl)
  refine it_rng2 m2 (by walk_at "yk") ?_ (by intro _; rfl) (by intro _; rfl)
  walk_at "ys"
  refine op_mulI (.inr ⟨by omega, by omega⟩) ?_
  rw [h3m]
  walk_at "ys"
  refine ⟨1, _, rfl, by omega, by omega, by omega, by omega, ?_⟩
  rw [show (((3 * (m * m) : Nat) : Int) + 2 - 1).toNat = 3 * (m * m) + 1 by omega]
  refine ⟨fun t env2 => ∃ lss x3, env2 = ⟨[some (.tup [.int b, grU R]), some (.int m), some (.lst (lss.map lyD)), x3, none, none, none], []⟩ ∧ La R m t lss ∧ ∀ t', t' ≤ t → ¬ UnAt R m t', ⟨lss, _, rfl, hLa, fun t' h => (show t' = 0 from by omega) ▸ hn0⟩, fun _ _ _ _ => trivial, fun t z env2 hz ⟨lss, x3, e, hLa, hno⟩ => ?_, fun env2 ⟨lss, x3, e, hLa, hno⟩ => ?_⟩
  rotate_left
  · subst e
    refine ⟨_, _, _, _, _, rfl, Classical.byContradiction fun hU => ?_⟩
    obtain ⟨t, h1, h2⟩ := UnAt.of hs hU
    exact hno t (by rw [List.length_map, List.length_range]; omega) h2
  subst e
  obtain ⟨t', ht', rfl⟩ := map_get hz
  obtain ⟨htl, rfl⟩ : t < 3 * (m * m) + 1 ∧ t' = t := by
    obtain ⟨h3, h4⟩ := List.getElem?_eq_some_iff.mp ht'
    simp at h3 h4
    exact ⟨by omega, by omega⟩
  walk_at "ys"
  refine s_setLcD [("_law_found", 5)] (by kernel_rfl) ?_ (by walk_at "yk") (by walk_at "yi") (by intro _ _; rfl) (by rfl) (by rfl)
  refine it_lst ?_
  walk_at "ys"
  refine ⟨_, rfl, fun rs => rs = [], fun a y => ∃ ls : List (List (U b)), y = lyD ls ∧ Ml R m a (t' + 1) ls, rfl, by rw [List.length_map, hLa.len]; omega, fun _ _ _ _ _ => trivial, fun k z rs hz e => ?_, fun ys rs hl hp e => ?_⟩
  · subst e
    obtain ⟨ls, hls, rfl⟩ := map_get hz
    refine ⟨_, by walk_at "ybd", by simp, ?_⟩
    walk_at "yw"
    walk_at "ys"
    walk_at "yn"
    refine ⟨b, m, k, t', R, ls, rfl, rfl, hs, hm, ht, hb, by omega, hLa.at_ k ls hls, fun ls' hL => ?_⟩
    exact ⟨⟨ls', rfl, hL⟩, rfl⟩
  subst e
  obtain ⟨lss', rfl, hlss⟩ := all_at hp
  have hLa' : La R m (t' + 1) lss' := ⟨by rw [List.length_map, List.length_map, hLa.len] at hl; exact hl, hlss⟩
  clear hp hl hlss
  walk_at "yx"
  refine r_cons ?_
  refine s_if (t_val ?_ (by intro _ _; rfl))
  walk_at "yb"
  refine ea_cons ?_ (by intro _; rfl)
  refine e_lcT [("_law_found", 5)] (by kernel_rfl) ?_ (by intro _ _; rfl)
  refine it_lst ?_
  walk_at "ys"
  refine ⟨_, rfl, lss'.map fun ls => .bl (ls.any fun l => decide (1 < (l.length : Int))), by simp, by rw [List.length_map, hLa'.len]; omega, fun _ _ _ => trivial, fun k z y hz hy => ?_, ?_⟩
  · obtain ⟨ls, hls, rfl⟩ := map_get hz
    obtain ⟨ls2, hls2, rfl⟩ := map_get hy
    rw [hls] at hls2
    cases hls2
    have hML := hLa'.at_ k ls hls
    refine ⟨_, by walk_at "ybd", by simp, ?_⟩
    walk_at "yw"
    walk_at "yb"
    refine ea_cons ?_ (by intro _; rfl)
    refine e_lcT [("_law_weights", 6)] (by kernel_rfl) ?_ (by intro _ _; rfl)
    refine it_lst ?_
    walk_at "ys"
    refine ⟨_, rfl, ls.map fun l => .bl (decide (1 < (l.length : Int))), by simp, by rw [List.length_map, hML.len]; omega, fun _ _ _ => trivial, fun k2 z y hz hy => ?_, ?_⟩
    · obtain ⟨l, hl, rfl⟩ := map_get hz
      obtain ⟨l2, hl2, rfl⟩ := map_get hy
      rw [hl] at hl2
      cases hl2
      refine ⟨_, by walk_at "ybd", by simp, ?_⟩
      walk_at "yw"
      walk_at "ys"
      refine cz_lenW2 ?_
      walk_at "ys"
      exact ⟨rfl, rfl⟩
    walk_at "ys"
    refine cz_any (bs := ls.map fun l => decide (1 < (l.length : Int))) (by rw [List.map_map]; rfl) ?_
    walk_at "yd"
    refine ⟨?_, rfl⟩
    rw [List.any_map]
    rfl
  walk_at "ys"
  refine cz_any (bs := lss'.map fun ls => ls.any fun l => decide (1 < (l.length : Int))) (by rw [List.map_map]; rfl) ?_
  walk_at "yd"
  refine ⟨_, rfl, ?_⟩
  rw [List.any_map, show (lss'.any (id ∘ fun ls => ls.any fun l => decide (1 < (l.length : Int)))) = two_ lss' from rfl]
  cases h2 : two_ lss' with
  | true =>
    walk_at "ys"
    have hun := (hLa'.two hs).mp h2
    have e : (1 : Int) + (t' : Nat) = ((t' + 1 : Nat) : Int) := by omega
    rw [e]
    exact fin_nil (hP2 (t' + 1) hun fun t2 h => hno t2 (by omega))
  | false =>
    walk_at "ys"
    refine ⟨lss', _, rfl, hLa', fun t2 h3 h4 => ?_⟩
    by_cases h5 : t2 ≤ t'
    · exact hno t2 h5 h4
    · obtain rfl : t2 = t' + 1 := by omega
      rw [(hLa'.two hs).mpr h4] at h2
      cases h2

set_option maxHeartbeats 4000000
/-! whole units -/
def Wh (n : Nat) (q : Rat) : Prop := ∃ a : Int, q = (a : Rat) ∧ a.natAbs ≤ n
theorem Wh.add {n k : Nat} {p q : Rat} (h : Wh n p) (g : Wh k q) : Wh (n + k) (p + q) := by
  obtain ⟨a, rfl, ha⟩ := h
  obtain ⟨c, rfl, hc⟩ := g
  exact ⟨a + c, by rw [Rat.intCast_add], by omega⟩
theorem Wh.sub {n k : Nat} {p q : Rat} (h : Wh n p) (g : Wh k q) : Wh (n + k) (p - q) := by
  obtain ⟨a, rfl, ha⟩ := h
  obtain ⟨c, rfl, hc⟩ := g
  exact ⟨a - c, by rw [Rat.intCast_sub], by omega⟩
theorem Wh.mono {n k : Nat} {p : Rat} (h : Wh n p) (l : n ≤ k) : Wh k p := by
  obtain ⟨a, e, ha⟩ := h
  exact ⟨a, e, by omega⟩
theorem Wh.num {n : Nat} {q : Rat} (h : Wh n q) : q.num.natAbs ≤ n ∧ q.den = 1 := by
  obtain ⟨a, rfl, ha⟩ := h
  exact ⟨by simpa using ha, by simp⟩
theorem Wh.tw {n : Nat} {q : Rat} (h : Wh n q) : Tw (12 * n) q := Tw.of h.num.1 (by rw [h.num.2]; decide)
theorem fr_int (a : Int) : fr (a : Rat) = .tup [.int a, .int 1] := by simp [fr]
def Wu {b : Nat} (n : Nat) (u : U b) : Prop := ∀ q ∈ u.1, Wh n q
theorem wh_zipWith {f : Rat → Rat → Rat} {n : Nat} : ∀ {u v : Un}, (∀ p ∈ u, ∀ q ∈ v, Wh n (f p q)) → ∀ q ∈ List.zipWith f u v, Wh n q
  | [], v, h, q, hq => by simp at hq
  | a :: u, [], h, q, hq => by simp at hq
  | a :: u, c :: v, h, q, hq => by
    rcases List.mem_cons.mp (show q ∈ f a c :: List.zipWith f u v from hq) with rfl | hq
    · exact h a (by simp) c (by simp)
    · exact wh_zipWith (fun p hp q hq => h p (List.mem_cons_of_mem _ hp) q (List.mem_cons_of_mem _ hq)) q hq
theorem Wu.add {b n k : Nat} {u v : U b} (h : Wu n u) (g : Wu k v) : Wu (n + k) (u + v) := wh_zipWith fun p hp q hq => (h p hp).add (g q hq)
theorem Wu.sub {b n k : Nat} {u v : U b} (h : Wu n u) (g : Wu k v) : Wu (n + k) (u - v) := wh_zipWith fun p hp q hq => (h p hp).sub (g q hq)
theorem Wu.mono {b n k : Nat} {u : U b} (h : Wu n u) (l : n ≤ k) : Wu k u := fun q hq => (h q hq).mono l
theorem Wu.uz {b n : Nat} {u : U b} (h : Wu n u) (l : n ≤ 10000) : Uz 1900 u.1 := Bt.uz (n := 12 * n) (fun q hq => (h q hq).tw) (by omega)
theorem all_fr {Q : Rat → Prop} : ∀ {ys : List D}, (∀ (k : Nat) (y : D), ys[k]? = some y → ∃ q, y = fr q ∧ Q q) → ∃ l : Un, ys = l.map fr ∧ ∀ q ∈ l, Q q
  | [], _ => ⟨[], rfl, fun _ h => by simp at h⟩
  | y :: ys, h => by
    obtain ⟨u, rfl, hu⟩ := h 0 y rfl
    obtain ⟨us, rfl, hus⟩ := all_fr (ys := ys) fun k y' e => h (k + 1) y' (by simpa using e)
    exact ⟨u :: us, rfl, fun u' h' => by rcases List.mem_cons.mp h' with rfl | h'; exact hu; exact hus u' h'⟩
def S_law_whole_unit : Spec := fun zs rs P _ => ∃ (w : V) (o : O) (b : Nat), zs = [.raw w, .int b] ∧ rs = [(w, o)] ∧ Hnd o ∧ b ≤ 10 ∧ ∀ o' (u : U b), Hnd o' → Wu 1 u → P (.s (uD u)) [(w, o')]
theorem f__law_whole_unit {g : Pg} (hd : Dx g "_law_whole_unit" st__law_whole_unit) (f1 : Fn g "_law_draw" 1 S_law_draw) (m1 : g.mg "tuple" = none) (m2 : g.mg "range" = none) : Fn g "_law_whole_unit" 2 S_law_whole_unit := by
  refine fm__law_whole_unit hd (fun zs rs P P2 h => by obtain ⟨i, a, b, rfl, _⟩ := h; rfl) fun zs rs P P2 h => ?_
  obtain ⟨w, o, b, rfl, rfl, hH, hb, hP⟩ := h
  walk_at "y0"
  walk_at "ys"
  refine e_lcD [("_law_k", 2)] (by kernel_rfl) ?_ (by intro _ _; rfl)
  refine it_rng m2 (by walk_at "yk") ?_ (by intro _; rfl)
  walk_at "ys"
  refine ⟨_, rfl, by omega, fun rs => ∃ o', rs = [(w, o')] ∧ Hnd o', fun _ y => ∃ q, y = fr q ∧ Wh 1 q, ⟨_, rfl, hH⟩, by simp; omega, fun _ _ _ _ _ => trivial, fun k z rs hz ⟨o', e, hH⟩ => ?_, fun ys rs hl hp ⟨o', e, hH⟩ => ?_⟩
  · subst e
    refine ⟨_, by walk_at "ybd", by simp, ?_⟩
    walk_at "yw"
    walk_at "ys"
    walk_at "yn1"
    refine ⟨w, o', 3, rfl, rfl, hH, by decide, by decide, fun o2 r h2 hr => ?_⟩
    walk_at "yd"
    walk_at "ys"
    exact ⟨⟨(((r : Int) - 1 : Int) : Rat), by rw [fr_int], (r : Int) - 1, rfl, by omega⟩, o2, rfl, h2⟩
  · subst e
    obtain ⟨l, rfl, hq⟩ := all_fr hp
    have hl2 : l.length = b := by simpa using hl
    subst hl2
    walk_at "yz"
    walk_at "ys"
    exact cbF_tuple rfl (fin_one .hd (hP o' ⟨l, rfl⟩ hH hq))

set_option maxHeartbeats 4000000
def S_law_raised : Spec := fun zs rs P _ => ∃ (w : V) (o : O), zs = [.raw w] ∧ rs = [(w, o)] ∧ Hnd o ∧ ∀ (o' : O) (b m : Nat) (hs : List (U b)) (rate : U b), Hnd o' → 1 ≤ b → b ≤ 2 → 6 ≤ m → m ≤ 10 → hs.length = m → (∀ u ∈ hs, Wu 1 u) → Wu 1 rate → P (.s (.tup [.lst (hs.map fun u => uD u), uD rate, .lst (hs.map fun u => uD (rate - u)), .lst (hs.map fun u => uD u)])) [(w, o')]
theorem f__law_raised {g : Pg} (hd : Dx g "_law_raised" st__law_raised) (f1 : Fn g "_law_draw" 1 S_law_draw) (f2 : Fn g "_law_whole_unit" 2 S_law_whole_unit) (f3 : Fn g "_law_unit_sum" 3 S_law_unit_sum) (m2 : g.mg "range" = none) : Fn g "_law_raised" 4 S_law_raised := by
  refine fm__law_raised hd (fun zs rs P P2 h => by obtain ⟨i, a, rfl, _⟩ := h; rfl) fun zs rs P P2 h => ?_
  obtain ⟨w, o, rfl, rfl, hH, hP⟩ := h
  walk_at "y0"
  walk_at "ys"
  walk_at "yn1"
  refine ⟨w, o, 2, rfl, rfl, hH, by decide, by decide, fun o b0 hH hb0 => ?_⟩
  obtain ⟨b, eb, hb1, hb2⟩ : ∃ b : Nat, (1 : Int) + (b0 : Int) = (b : Int) ∧ 1 ≤ b ∧ b ≤ 2 := ⟨b0 + 1, by omega, by omega, by omega⟩
  walk_at "yd"
  walk_at "ys"
  rw [eb]
  walk_at "yn1"
  refine ⟨w, o, 5, rfl, rfl, hH, by decide, by decide, fun o m0 hH hm0 => ?_⟩
  obtain ⟨m, em, hm1, hm2⟩ : ∃ b : Nat, (6 : Int) + (m0 : Int) = (b : Int) ∧ 6 ≤ b ∧ b ≤ 10 := ⟨m0 + 6, by omega, by omega, by omega⟩
  walk_at "yd"
  walk_at "ys"
  rw [em]
  refine ⟨_, _, _, rfl, by walk_at "yp", _, by walk_at "yp", ?_⟩
  refine r_cons ?_
  refine s_setLcD [("_law_p", 5)] (by kernel_rfl) ?_ (by walk_at "yk") (by walk_at "yi") (by intro _ _; rfl) (by rfl) (by rfl)
  refine it_rng m2 (by walk_at "yk") ?_ (by intro _; rfl)
  walk_at "ys"
  refine ⟨_, rfl, by omega, fun rs => ∃ o', rs = [(w, o')] ∧ Hnd o', fun _ y => ∃ u : U b, y = uD u ∧ Wu 1 u, ⟨_, rfl, hH⟩, by simp; omega, fun _ _ _ _ _ => trivial, fun k z rs hz ⟨o', e, hH⟩ => ?_, fun ys rs hl hp ⟨o', e, hH⟩ => ?_⟩
  · subst e
    refine ⟨_, by walk_at "ybd", by simp, ?_⟩
    walk_at "yw"
    walk_at "ys"
    walk_at "yn1"
    refine ⟨w, o', b, rfl, rfl, hH, by omega, fun o2 u h2 hu => ?_⟩
    exact ⟨⟨u, rfl, hu⟩, o2, rfl, h2⟩
  subst e
  obtain ⟨hs, rfl, hfu⟩ := all_of hp
  have hfl : hs.length = m := by simpa using hl
  walk_at "yx"
  walk_at "ys"
  walk_at "yn1"
  refine ⟨w, o', b, rfl, rfl, hH, by omega, fun o' rate hH hrate => ?_⟩
  walk_at "yd"
  walk_at "ys"
  refine e_lcT [("_law_height", 6)] (by kernel_rfl) ?_ (by intro _ _; rfl)
  refine it_lst ?_
  walk_at "ys"
  refine ⟨_, rfl, hs.map fun u => uD (rate - u), by simp, by simp [hfl]; omega, fun _ _ _ => trivial, fun k z y hz hy => ?_, ?_⟩
  · obtain ⟨u, hu, rfl⟩ := map_get hz
    obtain ⟨u', hu', rfl⟩ := map_get hy
    rw [hu] at hu'
    cases hu'
    refine ⟨_, by walk_at "ybd", by simp, ?_⟩
    walk_at "yw"
    walk_at "ys"
    walk_at "yn"
    refine ⟨b, rate, u, false, rfl, rfl, by omega, hrate.uz (by decide), (hfu u (List.mem_of_getElem? hu)).uz (by decide), ?_⟩
    exact ⟨rfl, rfl⟩
  walk_at "yz"
  walk_at "ys"
  exact fin_one .hd (hP o' b m hs rate hH hb1 hb2 hm1 hm2 hfl hfu hrate)

set_option maxHeartbeats 4000000
def e1U (b : Nat) : U b := ⟨(List.range b).map fun i => if i = 0 then 1 else 0, by simp⟩
theorem e1U_wu (b : Nat) : Wu 1 (e1U b) := fun q hq => by
  obtain ⟨i, _, rfl⟩ := List.mem_map.mp hq
  by_cases h : i = 0
  · exact ⟨1, by simp [h], by decide⟩
  · exact ⟨0, by simp [h], by decide⟩
theorem e1U_ne {b : Nat} (hb : 1 ≤ b) : e1U b ≠ 0 := fun h => by
  have h2 : ((List.range b).map fun i => if i = 0 then (1 : Rat) else 0) = List.replicate b 0 := congrArg (fun u : U b => u.1) h
  have h3 := congrArg (fun l : List Rat => l[0]?) h2
  simp [List.getElem?_range hb] at h3
  rw [List.getElem?_replicate, if_pos (by omega)] at h3
  exact absurd (Option.some.inj h3) (by decide)
theorem modc (k m : Nat) : ((k : Int) + 1) % (m : Int) = (((k + 1) % m : Nat) : Int) := by
  rw [Int.natCast_emod]; rfl
/-- one row -/
structure Gr1 {b : Nat} (f : U b) (ss : List (U b)) (i m n : Nat) (r : List (Option (U b))) : Prop where
  len : r.length = n
  val : ∀ (j : Nat) (a : U b), r[j]? = some (some a) → ∃ s, ss[j]? = some s ∧ a = f + s
  there : ∀ j, j < n → (j = i ∨ j = (i + 1) % m) → ∃ a, r[j]? = some (some a)
  sz : ∀ u, some u ∈ r → Wu 3 u
structure Grt {b : Nat} (m : Nat) (fs ss : List (U b)) (i0 : Option Nat) (R : GR b) : Prop where
  len : R.length = m
  row : ∀ r ∈ R, r.length = m
  val : ∀ i j a, tie R i j = some a → ∃ f s, fs[i]? = some f ∧ ss[j]? = some s ∧ a = f + s + (if i0 = some i ∧ j = (i + 1) % m then e1U b else 0)
  ringed : Ringed R m
  cell : ∀ r ∈ R, ∀ u, some u ∈ r → Wu 4 u
theorem Gr1.snoc {b : Nat} {f : U b} {ss : List (U b)} {i m n : Nat} {r : List (Option (U b))} {s : U b} {t : Bool} (h : Gr1 f ss i m n r) (hs : ss[n]? = some s) (ht : (n = i ∨ n = (i + 1) % m) → t = true) (hz : Wu 3 (f + s)) : Gr1 f ss i m (n + 1) (r ++ [if t then some (f + s) else none]) := by
  refine ⟨by simp [h.len], fun j a e => ?_, fun j hj hc => ?_, fun u hu => ?_⟩
  · rw [List.getElem?_append] at e
    by_cases q : j < r.length
    · rw [if_pos q] at e; exact h.val j a e
    · rw [if_neg q] at e
      cases e2 : j - r.length with
      | zero =>
        rw [e2] at e
        simp at e
        obtain rfl : j = n := by have := h.len; omega
        cases t with
        | true => simp at e; exact ⟨s, hs, e.symm⟩
        | false => simp at e
      | succ k => rw [e2] at e; simp at e
  · by_cases q : j < n
    · obtain ⟨a, ha⟩ := h.there j q hc
      exact ⟨a, by rw [List.getElem?_append_left (by rw [h.len]; exact q)]; exact ha⟩
    · obtain rfl : j = n := by omega
      rw [ht hc]
      exact ⟨f + s, by rw [← h.len]; simp⟩
  · rcases List.mem_append.mp hu with hu | hu
    · exact h.sz u hu
    · rw [List.mem_singleton] at hu
      cases t with
      | true => simp at hu; rw [hu]; exact hz
      | false => simp at hu
def GrR {b : Nat} (fs ss : List (U b)) (m : Nat) (R : GR b) : Prop := ∀ (i : Nat) (r : List (Option (U b))), R[i]? = some r → ∃ f, fs[i]? = some f ∧ Gr1 f ss i m m r
theorem tie_row {b : Nat} {R : GR b} {i : Nat} {r : List (Option (U b))} (h : R[i]? = some r) (j : Nat) : tie R i j = (r[j]?).join := by
  unfold tie; rw [h]; rfl
theorem tie_get {b : Nat} {R : GR b} {i j : Nat} {a : U b} (h : tie R i j = some a) : ∃ r, R[i]? = some r ∧ r[j]? = some (some a) := by
  unfold tie at h
  cases e : R[i]? with
  | none => rw [e] at h; simp at h
  | some r =>
    rw [e] at h
    simp only [Option.getD_some] at h
    cases e2 : r[j]? with
    | none => rw [e2] at h; simp at h
    | some x => rw [e2] at h; simp at h; subst h; exact ⟨r, rfl, e2⟩
theorem GrR.grt {b m : Nat} {fs ss : List (U b)} {R : GR b} (h : GrR fs ss m R) (hl : R.length = m) : Grt m fs ss none R := by
  refine ⟨hl, fun r hr => ?_, fun i j a e => ?_, ⟨fun p hp => ?_, fun p hp => ?_⟩, fun r hr u hu => ?_⟩
  · obtain ⟨i, hi⟩ := List.mem_iff_getElem?.mp hr
    obtain ⟨f, _, g⟩ := h i r hi
    exact g.len
  · obtain ⟨r, e1, e2⟩ := tie_get e
    obtain ⟨f, hf, g⟩ := h i r e1
    obtain ⟨s, hs, rfl⟩ := g.val j a e2
    exact ⟨f, s, hf, hs, by rw [if_neg (by simp)]; grind⟩
  · have e : R[p]? = some R[p] := List.getElem?_eq_getElem (by omega)
    obtain ⟨f, _, g⟩ := h p _ e
    obtain ⟨a, ha⟩ := g.there p hp (.inl rfl)
    exact ⟨a, by rw [tie_row e, ha]; rfl⟩
  · have e : R[p]? = some R[p] := List.getElem?_eq_getElem (by omega)
    obtain ⟨f, _, g⟩ := h p _ e
    obtain ⟨a, ha⟩ := g.there ((p + 1) % m) (Nat.mod_lt _ (by omega)) (.inr rfl)
    exact ⟨a, by rw [tie_row e, ha]; rfl⟩
  · obtain ⟨i, hi⟩ := List.mem_iff_getElem?.mp hr
    obtain ⟨f, _, g⟩ := h i r hi
    exact (g.sz u hu).mono (by decide)
theorem GrR.bent {b m : Nat} {fs ss : List (U b)} {R : GR b} (h : GrR fs ss m R) (hl : R.length = m) {i0 : Nat} {r0 : List (Option (U b))} {a0 : U b} (h1 : R[i0]? = some r0) (h2 : r0[(i0 + 1) % m]? = some (some a0)) : Grt m fs ss (some i0) (R.set i0 (r0.set ((i0 + 1) % m) (some (a0 + e1U b)))) := by
  have hi : i0 < R.length := enum_at h1
  have hj : (i0 + 1) % m < r0.length := enum_at h2
  obtain ⟨f0, hf0, g0⟩ := h i0 r0 h1
  obtain ⟨s0, hs0, ea⟩ := g0.val _ _ h2
  have G := h.grt hl
  have hrow : ∀ i, i ≠ i0 → (R.set i0 (r0.set ((i0 + 1) % m) (some (a0 + e1U b))))[i]? = R[i]? := fun i hne => by rw [List.getElem?_set_ne (fun z => hne z.symm)]
  have hrow0 : (R.set i0 (r0.set ((i0 + 1) % m) (some (a0 + e1U b))))[i0]? = some (r0.set ((i0 + 1) % m) (some (a0 + e1U b))) := List.getElem?_set_self hi
  have hex : ∀ p q, (∃ a, tie R p q = some a) → ∃ a, tie (R.set i0 (r0.set ((i0 + 1) % m) (some (a0 + e1U b)))) p q = some a := fun p q ⟨a, ha⟩ => by
    obtain ⟨r, e1, e2⟩ := tie_get ha
    by_cases hp : p = i0
    · subst hp
      rw [h1] at e1
      cases e1
      by_cases hq : q = (p + 1) % m
      · subst hq
        exact ⟨a0 + e1U b, by rw [tie_row hrow0, List.getElem?_set_self hj]; rfl⟩
      · exact ⟨a, by rw [tie_row hrow0, List.getElem?_set_ne (fun z => hq z.symm), e2]; rfl⟩
    · exact ⟨a, by rw [tie_row (by rw [hrow p hp]; exact e1), e2]; rfl⟩
  refine ⟨by rw [List.length_set]; exact hl, fun r hr => ?_, fun i j a e => ?_, ⟨fun p hp => hex _ _ (G.ringed.slant p hp), fun p hp => hex _ _ (G.ringed.ring p hp)⟩, fun r hr u hu => ?_⟩
  · rcases List.mem_or_eq_of_mem_set hr with hr | hr
    · exact G.row r hr
    · rw [hr, List.length_set]; exact g0.len
  · obtain ⟨r, e1, e2⟩ := tie_get e
    by_cases hp : i = i0
    · subst hp
      rw [hrow0] at e1
      cases e1
      by_cases hq : j = (i + 1) % m
      · subst hq
        rw [List.getElem?_set_self hj] at e2
        simp at e2
        exact ⟨f0, s0, hf0, hs0, by rw [if_pos ⟨rfl, rfl⟩, ← e2, ea]⟩
      · rw [List.getElem?_set_ne (fun z => hq z.symm)] at e2
        obtain ⟨s, hs, rfl⟩ := g0.val j a e2
        exact ⟨f0, s, hf0, hs, by rw [if_neg (fun z => hq z.2)]; grind⟩
    · rw [hrow i hp] at e1
      obtain ⟨f, hf, g⟩ := h i r e1
      obtain ⟨s, hs, rfl⟩ := g.val j a e2
      exact ⟨f, s, hf, hs, by rw [if_neg (fun z => hp (Option.some.inj z.1).symm)]; grind⟩
  · rcases List.mem_or_eq_of_mem_set hr with hr | hr
    · exact G.cell r hr u hu
    · subst hr
      rcases List.mem_or_eq_of_mem_set hu with hu | hu
      · exact (g0.sz u hu).mono (by decide)
      · cases hu
        exact (g0.sz a0 (List.mem_of_getElem? h2)).add (e1U_wu b)
theorem e1U_D {b : Nat} (h : b = 1 ∨ b = 2) : D.tup ([D.tup [.int 1, .int 1]] ++ (List.replicate ((b : Int) - 1).toNat [D.tup [.int 0, .int 1]]).flatten) = uD (e1U b) := by
  rcases h with rfl | rfl
  · rfl
  · rfl
theorem Grt.gv {b m : Nat} {fs ss : List (U b)} {i0 : Option Nat} {R : GR b} (h : Grt m fs ss i0 R) (hb1 : 1 ≤ b) (hb : b ≤ 3) (m1 : 1 ≤ m) (m2 : m ≤ 10) : Gv m m R := ⟨hb1, hb, h.len, m1, m2, m1, m2, h.row, fun r hr u hu q hq => by
  have := (h.cell r hr u hu q hq).num
  omega⟩
def S_law_great : Spec := fun zs rs P _ => ∃ (w : V) (o : O) (b m : Nat) (fs ss : List (U b)), zs = [.raw w, .lst (fs.map fun u => uD u), .lst (ss.map fun u => uD u)] ∧ rs = [(w, o)] ∧ Hnd o ∧ 1 ≤ b ∧ b ≤ 2 ∧ 6 ≤ m ∧ m ≤ 10 ∧ fs.length = m ∧ ss.length = m ∧ (∀ u ∈ fs, Wu 2 u) ∧ (∀ u ∈ ss, Wu 1 u) ∧ ∀ (o' : O) (R : GR b) (i0 : Option Nat), Hnd o' → Grt m fs ss i0 R → (∀ i, i0 = some i → i < m) → P (.s (.tup [grU R, .bl i0.isSome])) [(w, o')]

set_option maxHeartbeats 4000000
theorem f__law_great {g : Pg} (hd : Dx g "_law_great" st__law_great) (f1 : Fn g "_law_draw" 1 S_law_draw) (f3 : Fn g "_law_unit_sum" 3 S_law_unit_sum) (m1 : g.mg "tuple" = none) (m2 : g.mg "range" = none) (m3 : g.mg "len" = none) (m4 : g.mg "int" = none) : Fn g "_law_great" 4 S_law_great := by
  refine fm__law_great hd (fun zs rs P P2 h => by obtain ⟨i, a, b, c, d, e, rfl, _⟩ := h; rfl) fun zs rs P P2 h => ?_
  obtain ⟨w, o, b, m, fs, ss, rfl, rfl, hH, hb1, hb2, hm1, hm2, hfl, hsl, hfu, hsu, hP⟩ := h
  obtain ⟨f0, hf0⟩ : ∃ f, fs[0]? = some f := ⟨_, List.getElem?_eq_getElem (by omega)⟩
  have lf0 := f0.2
  walk_at "y0"
  walk_at "ys"
  refine ⟨_, _, rfl, ixD_nat (k := 0) (z := uD f0) (by rw [List.getElem?_map, hf0]; rfl), ?_⟩
  simp only [un]
  walk_at "ys"
  rw [List.length_map, List.length_map, hfl, lf0]
  refine ⟨_, _, _, rfl, by walk_at "yp", _, by walk_at "yp", ?_⟩
  walk_at "ys"
  intro w3
  walk_at "yx"
  walk_at "yz"
  refine r_sw ?_
  refine r_cut (fun env2 => ∃ (o' : O) (R : GR b) (x6 x7 x8 x9 : Option D), env2 = ⟨[some (.raw w), some (.lst (fs.map fun u => uD u)), some (.lst (ss.map fun u => uD u)), some (.int m), some (.int b), some (.raw w3), x6, x7, x8, x9, none], [(w, o'), (w3, rsO R)]⟩ ∧ Hnd o' ∧ R.length = m ∧ GrR fs ss m R) ?_ fun env2 ⟨o', R, x6, x7, x8, x9, e, hH, hR1, hR2⟩ => ?_
  · refine s_for ?_ (by intro _ _; rfl)
    refine it_rng m2 (by walk_at "yk") ?_ (by intro _; rfl)
    walk_at "ys"
    refine ⟨_, rfl, by omega, fun k env2 => ∃ (o' : O) (R : GR b) (x6 x7 x8 x9 : Option D), env2 = ⟨[some (.raw w), some (.lst (fs.map fun u => uD u)), some (.lst (ss.map fun u => uD u)), some (.int m), some (.int b), some (.raw w3), x6, x7, x8, x9, none], [(w, o'), (w3, rsO R)]⟩ ∧ Hnd o' ∧ R.length = k ∧ GrR fs ss m R, ?_, fun _ _ _ _ => trivial, ?_, ?_⟩
    · exact ⟨_, [], _, _, _, _, rfl, hH, rfl, fun _ _ h => by simp at h⟩
    · intro k z env2 hz ⟨o', R, x6, x7, x8, x9, e, hH, hR1, hR2⟩
      subst e
      obtain ⟨hk, rfl⟩ := rng_get hz
      obtain ⟨fk, hfk⟩ : ∃ f, fs[k]? = some f := ⟨_, List.getElem?_eq_getElem (by omega)⟩
      have hfw := hfu fk (List.mem_of_getElem? hfk)
      walk_at "ys"
      intro w4
      walk_at "yx"
      walk_at "yz"
      refine r_sw ?_
      refine r_cut (fun env2 => ∃ (o' : O) (r : List (Option (U b))) (x8 x9 : Option D), env2 = ⟨[some (.raw w), some (.lst (fs.map fun u => uD u)), some (.lst (ss.map fun u => uD u)), some (.int m), some (.int b), some (.raw w3), some (.int k), some (.raw w4), x8, x9, none], [(w, o'), (w4, rwO r), (w3, rsO R)]⟩ ∧ Hnd o' ∧ Gr1 fk ss k m m r) ?_ fun env2 ⟨o', r, x8, x9, e, hH, hr⟩ => ?_
      · refine s_for ?_ (by intro _ _; rfl)
        refine it_rng m2 (by walk_at "yk") ?_ (by intro _; rfl)
        walk_at "ys"
        refine ⟨_, rfl, by omega, fun j env2 => ∃ (o' : O) (r : List (Option (U b))) (x8 x9 : Option D), env2 = ⟨[some (.raw w), some (.lst (fs.map fun u => uD u)), some (.lst (ss.map fun u => uD u)), some (.int m), some (.int b), some (.raw w3), some (.int k), some (.raw w4), x8, x9, none], [(w, o'), (w4, rwO r), (w3, rsO R)]⟩ ∧ Hnd o' ∧ Gr1 fk ss k m j r, ?_, fun _ _ _ _ => trivial, ?_, ?_⟩
        · exact ⟨_, [], _, _, rfl, hH, ⟨rfl, fun _ _ h => by simp at h, fun _ h => absurd h (by omega), fun _ h => by simp at h⟩⟩
        · intro j z env2 hz ⟨o', r, x8, x9, e, hH, hr⟩
          subst e
          obtain ⟨hj, rfl⟩ := rng_get hz
          obtain ⟨sj, hsj⟩ : ∃ f, ss[j]? = some f := ⟨_, List.getElem?_eq_getElem (by omega)⟩
          have hsw := hsu sj (List.mem_of_getElem? hsj)
          refine g_name (by walk_at "yp") (by walk_at "yk") (by rfl) ?_
          refine r_cut (fun env2 => ∃ (o' : O) (t : Bool), env2 = ⟨[some (.raw w), some (.lst (fs.map fun u => uD u)), some (.lst (ss.map fun u => uD u)), some (.int m), some (.int b), some (.raw w3), some (.int k), some (.raw w4), some (.int j), some (.bl t), none], [(w, o'), (w4, rwO r), (w3, rsO R)]⟩ ∧ Hnd o' ∧ ((j = k ∨ j = (k + 1) % m) → t = true)) ?_ fun env2 ⟨o', t, e, hH, ht⟩ => ?_
          · walk_at "ys"
            refine ⟨fun h1 => ?_, fun h1 => ?_⟩
            · have h1' := of_decide_eq_false h1
              walk_at "ys"
              rw [modc]
              refine ⟨fun h2 => ?_, fun h2 => ?_⟩
              · have h2' := of_decide_eq_false h2
                walk_at "ys"
                walk_at "yn1"
                refine ⟨w, o', 4, rfl, rfl, hH, by decide, by decide, fun o2 t hH ht => ?_⟩
                walk_at "yd"
                walk_at "ys"
                exact ⟨o2, _, rfl, hH, fun h3 => by omega⟩
              · walk_at "ys"
                exact ⟨o', _, rfl, hH, fun _ => rfl⟩
            · walk_at "ys"
              exact ⟨o', _, rfl, hH, fun _ => rfl⟩
          subst e
          walk_at "ys"
          refine ⟨_, _, _, rfl, .tl .hd, ?_⟩
          refine E.toO ?_
          walk_at "ys"
          have hsn := hr.snoc (t := t) hsj ht (hfw.add hsw)
          have hlen : (List.map O.s (List.map clU r)).length ≤ 1000000 := by simp only [List.length_map, hr.len]; omega
          have fin : ∀ q : Option (U b), rwO (r ++ [q]) = .l (((r.map clU).map O.s) ++ [.s (clU q)]) := fun q => by simp [rwO]
          cases t with
          | true =>
            walk_at "ys"
            refine ⟨_, _, rfl, ixD_nat (z := uD fk) (by rw [List.getElem?_map, hfk]; rfl), ?_⟩
            walk_at "ys"
            refine ⟨_, _, rfl, ixD_nat (z := uD sj) (by rw [List.getElem?_map, hsj]; rfl), ?_⟩
            walk_at "ys"
            walk_at "yn"
            refine ⟨b, fk, sj, true, rfl, rfl, by omega, hfw.uz (by decide), hsw.uz (by decide), ?_⟩
            simp only [if_true]
            walk_at "yd"
            refine ⟨_, _, .tl .hd, hlen, ?_⟩
            walk_at "ys"
            exact ⟨o', r ++ [some (fk + sj)], _, _, by rw [fin]; rfl, hH, hsn⟩
          | false =>
            walk_at "ys"
            refine ⟨_, _, .tl .hd, hlen, ?_⟩
            walk_at "ys"
            exact ⟨o', r ++ [none], _, _, by rw [fin]; rfl, hH, hsn⟩
        · intro env2 ⟨o', r, x8, x9, e, hH, hr⟩
          rw [rng_len] at hr
          exact ⟨o', r, x8, x9, e, hH, hr⟩
      subst e
      walk_at "ys"
      refine ⟨_, _, _, rfl, .tl (.tl .hd), ?_⟩
      refine eo_mv ?_
      walk_at "ys"
      refine ⟨_, _, _, rfl, .tl .hd, ?_⟩
      refine ⟨_, _, .tl .hd, by simp only [List.length_map]; omega, ?_⟩
      walk_at "ys"
      refine ⟨o', R ++ [r], _, _, _, _, by simp only [rsO, List.map_append]; rfl, hH, by simp [hR1], fun i r' hr' => ?_⟩
      rw [List.getElem?_append] at hr'
      by_cases q : i < R.length
      · rw [if_pos q] at hr'; exact hR2 i r' hr'
      · rw [if_neg q] at hr'
        cases e2 : i - R.length with
        | zero =>
          rw [e2] at hr'
          simp at hr'
          obtain rfl : i = k := by omega
          subst hr'
          exact ⟨fk, hfk, hr⟩
        | succ n => rw [e2] at hr'; simp at hr'
    · intro env2 ⟨o', R, x6, x7, x8, x9, e, hH, hR1, hR2⟩
      rw [rng_len] at hR1
      exact ⟨o', R, x6, x7, x8, x9, e, hH, hR1, hR2⟩
  subst e
  walk_at "ys"
  walk_at "yn1"
  refine ⟨w, o', 2, rfl, rfl, hH, by decide, by decide, fun o' t hH ht => ?_⟩
  walk_at "yd"
  walk_at "y1"
  walk_at "y1"
  walk_at "yx"
  generalize decide ((t : Int) = 0) = bt
  refine r_cut (fun env2 => ∃ (o' : O) (R : GR b) (i0 : Option Nat) (x6 x8 : Option D), env2 = ⟨[some (.raw w), some (.lst (fs.map fun u => uD u)), some (.lst (ss.map fun u => uD u)), some (.int m), some (.int b), some (.raw w3), x6, x7, x8, x9, some (.bl bt)], [(w, o'), (w3, rsO R)]⟩ ∧ Hnd o' ∧ Grt m fs ss i0 R ∧ bt = i0.isSome ∧ ∀ i, i0 = some i → i < m) ?_ fun env2 ⟨o', R, i0, x6, x8, e, hH, hR, hbt, hi0⟩ => ?_
  · walk_at "ys"
    cases bt with
    | false =>
      walk_at "ys"
      exact ⟨_, R, none, _, _, rfl, hH, hR2.grt hR1, rfl, fun _ h => nomatch h⟩
    | true =>
      walk_at "ys"
      walk_at "yn1"
      refine ⟨w, o', m, rfl, rfl, hH, by omega, by omega, fun o2 i hH hi => ?_⟩
      walk_at "yd"
      refine ⟨_, by walk_at "yp", ?_⟩
      walk_at "ys"
      rw [modc]
      walk_at "ys"
      have hi' : i < R.length := by omega
      obtain ⟨r0, hr0⟩ : ∃ r, R[i]? = some r := ⟨_, List.getElem?_eq_getElem hi'⟩
      obtain ⟨fi, hfi, g0⟩ := hR2 i r0 hr0
      have hjm : (i + 1) % m < m := Nat.mod_lt _ (by omega)
      obtain ⟨a0, ha0⟩ := g0.there ((i + 1) % m) hjm (.inr rfl)
      have haw := g0.sz a0 (List.mem_of_getElem? ha0)
      have hG := GrR.bent hR2 hR1 hr0 ha0
      have hb12 : b = 1 ∨ b = 2 := by omega
      refine e_back (e_ixR ?_ (by intro _ _; rfl))
      refine e_ixB ?_ (by intro _ _; rfl)
      walk_at "ys"
      refine ⟨_, _, _, i, rwO r0, _, rfl, rfl, .tl .hd, ixN_nat (by rw [List.length_map]; exact hi'), by rw [List.getElem?_map, hr0]; rfl, fun v => ?_⟩
      walk_at "ys"
      refine ⟨v, (r0.map clU).map O.s, _, uD a0, _, rfl, rfl, .hd, L2.atI_nat (by rw [List.getElem?_map, List.getElem?_map, ha0]; rfl), ?_⟩
      refine ⟨v, _, _, w3, _, _, _, .hd, .tl .hd, .l (j := i) (by rw [List.getElem?_set_self (by rw [List.length_map]; exact hi')]), ?_⟩
      rw [List.set_set, set_same (show (R.map rwO)[i]? = some (rwO r0) from by rw [List.getElem?_map, hr0]; rfl)]
      walk_at "ys"
      refine op_repT (by simp) (by omega) (by omega) (by decide) ?_
      walk_at "ys"
      refine op_catT ?_ ?_
      · have : ((List.replicate ((b : Int) - 1).toNat [D.tup [.int 0, .int 1]]).flatten).length ≤ 1 := by
          rcases hb12 with rfl | rfl <;> decide
        simp only [List.length_cons, List.length_nil]
        omega
      rw [e1U_D hb12]
      walk_at "ys"
      walk_at "yn"
      refine ⟨b, a0, e1U b, true, rfl, rfl, by omega, haw.uz (by decide), (e1U_wu b).uz (by decide), ?_⟩
      simp only [if_true]
      walk_at "yd"
      refine g_ixR ?_ (by intro _ _; rfl)
      refine e_ixB ?_ (by intro _ _; rfl)
      walk_at "ys"
      refine ⟨_, _, _, i, rwO r0, _, rfl, rfl, .tl .hd, ixN_nat (by rw [List.length_map]; exact hi'), by rw [List.getElem?_map, hr0]; rfl, fun v => ?_⟩
      walk_at "ys"
      refine ⟨v, (r0.map clU).map O.s, _, (i + 1) % m, _, rfl, rfl, .hd, ixN_nat (by rw [List.length_map, List.length_map, g0.len]; exact hjm), ?_⟩
      walk_at "yz"
      refine r_back (w := w3) .hd (.tl .hd) (.l (j := i) (by rw [List.getElem?_set_self (by rw [List.length_map]; exact hi')])) ?_
      walk_at "ys"
      refine ⟨o2, R.set i (r0.set ((i + 1) % m) (some (a0 + e1U b))), some i, some (.int i), some (.int ((i + 1) % m : Nat)), ?_, hH, hG, rfl, fun _ h => by cases h; exact hi⟩
      have e1 : ((r0.map clU).map O.s).set ((i + 1) % m) (O.s (uD (a0 + e1U b))) = ((r0.set ((i + 1) % m) (some (a0 + e1U b))).map clU).map O.s := by
        rw [List.map_set, List.map_set]; rfl
      have e2 : rsO (R.set i (r0.set ((i + 1) % m) (some (a0 + e1U b)))) = .l ((R.map rwO).set i (.l (((r0.map clU).map O.s).set ((i + 1) % m) (O.s (uD (a0 + e1U b)))))) := by
        rw [e1]; exact congrArg O.l (map_set rwO R i _).symm
      walk_at "yz"
      rw [e2, List.set_set]
  subst e
  refine r_frzV (x := "_law_rows_here") (by walk_at "yl") (by walk_at "yp") (by walk_at "yt") ?_
  rw [fz_rsO]
  simp only [lsU]
  walk_at "ys"
  refine e_lcT [("_law_row", 7)] (by kernel_rfl) ?_ (by intro _ _; rfl)
  refine it_lst ?_
  walk_at "ys"
  refine ⟨_, rfl, R.map rwU, by simp, by simp [hR.len]; omega, fun _ _ _ => trivial, fun k z y hz hy => ?_, ?_⟩
  · obtain ⟨r, hr, rfl⟩ := map_get hz
    obtain ⟨r', hr', rfl⟩ := map_get hy
    rw [hr] at hr'
    cases hr'
    refine ⟨_, by walk_at "ybd", by simp, ?_⟩
    walk_at "yw"
    walk_at "ys"
    exact cbF_tuple (z := rlU r) rfl ⟨rfl, rfl⟩
  · walk_at "yz"
    walk_at "ys"
    refine cbF_tuple rfl ?_
    walk_at "ys"
    rw [hbt]
    exact fin_one .hd (hP o' R i0 hH hR hi0)

set_option maxHeartbeats 4000000
theorem Grt.hh {b m : Nat} {hs : List (U b)} {rate : U b} {i0 : Option Nat} {R : GR b} (h : Grt m (hs.map fun u => rate - u) hs i0 R) (p q : Nat) (a : U b) (e : tie R p q = some a) : a = rate - hs.getD p 0 + hs.getD q 0 + (if i0 = some p ∧ q = (p + 1) % m then e1U b else 0) := by
  obtain ⟨f, s, h1, h2, h3⟩ := h.val p q a e
  obtain ⟨u, hu, rfl⟩ := map_get h1
  rw [List.getD_eq_getElem?_getD, List.getD_eq_getElem?_getD, hu, h2]
  exact h3
theorem Grt.uniq {b m : Nat} {hs : List (U b)} {rate : U b} {R : GR b} (h : Grt m (hs.map fun u => rate - u) hs none R) : Uniq R m := by
  have hh : ∀ p q a, tie R p q = some a → a = rate - hs.getD p 0 + hs.getD q 0 := fun p q a e => by
    have := h.hh p q a e
    rw [if_neg (by simp)] at this
    rw [this]; grind
  exact high_uniq hh
theorem Grt.not {b m i : Nat} {hs : List (U b)} {rate : U b} {R : GR b} (hb : 1 ≤ b) (hm : 2 ≤ m) (hi : i < m) (h : Grt m (hs.map fun u => rate - u) hs (some i) R) : ¬ Uniq R m := by
  refine bent_not (r := rate) (e := e1U b) (h := fun p => hs.getD p 0) hm hi h.ringed (fun p q a e => ?_) (e1U_ne hb)
  have := h.hh p q a e
  rw [this]
  congr 1
  by_cases q1 : p = i ∧ q = (i + 1) % m
  · rw [if_pos q1, if_pos]; obtain ⟨rfl, rfl⟩ := q1; exact ⟨rfl, rfl⟩
  · rw [if_neg q1, if_neg]; rintro ⟨q2, q3⟩; apply q1; cases q2; exact ⟨rfl, q3⟩
/-- so many times a unit -/
def tmU {b : Nat} : Nat → U b → U b
  | 0, _ => 0
  | n + 1, u => tmU n u + u
theorem high_wk {b : Nat} {R : GR b} {m a : Nat} {r : U b} {h : Nat → U b} (hh : ∀ p q c, tie R p q = some c → c = r - h p + h q) : ∀ (t q : Nat) (w : U b), WkN R m a t q w → w = tmU t r - h a + h q
  | 0, q, w, g => by
    obtain ⟨_, rfl, rfl⟩ := WkN.zero.mp g
    simp only [tmU]
    grind
  | t + 1, q, w, g => by
    obtain ⟨p, v, c, h1, h2, rfl⟩ := WkN.succ.mp g
    rw [high_wk hh t p v h1, hh p q c h2]
    simp only [tmU]
    grind
theorem Ringed.wk {b : Nat} {R : GR b} {m i : Nat} (g : Ringed R m) (hi : i < m) : ∀ t k : Nat, k ≤ t → ∃ w, WkN R m i t ((i + k) % m) w
  | 0, k, h => by
    obtain rfl : k = 0 := by omega
    exact ⟨0, WkN.zero.mpr ⟨hi, by rw [Nat.add_zero, Nat.mod_eq_of_lt hi], rfl⟩⟩
  | t + 1, k, h => by
    have hm : 0 < m := by omega
    by_cases hk : k ≤ t
    · obtain ⟨w, hw⟩ := g.wk hi t k hk
      obtain ⟨a, ha⟩ := g.slant ((i + k) % m) (Nat.mod_lt _ hm)
      exact ⟨_, WkN.succ.mpr ⟨_, w, a, hw, ha, rfl⟩⟩
    · obtain rfl : k = t + 1 := by omega
      obtain ⟨w, hw⟩ := g.wk hi t t (Nat.le_refl _)
      obtain ⟨a, ha⟩ := g.ring ((i + t) % m) (Nat.mod_lt _ hm)
      refine ⟨_, WkN.succ.mpr ⟨_, w, a, hw, ?_, rfl⟩⟩
      rw [Nat.mod_add_mod] at ha
      rw [← Nat.add_assoc]
      exact ha
theorem Ringed.wk_all {b : Nat} {R : GR b} {m i j t : Nat} (g : Ringed R m) (hi : i < m) (hj : j < m) (ht : m ≤ t) : ∃ w, WkN R m i t j w := by
  have hm : 0 < m := by omega
  obtain ⟨w, hw⟩ := g.wk hi t ((j + (m - i)) % m) (by have := Nat.mod_lt (j + (m - i)) hm; omega)
  rw [Nat.add_mod_mod, show i + (j + (m - i)) = j + m by omega, Nat.add_mod_right, Nat.mod_eq_of_lt hj] at hw
  exact ⟨w, hw⟩
theorem bent_wk {b : Nat} {R : GR b} {m i : Nat} {r e : U b} {h : Nat → U b} (hm : 2 ≤ m) (hi : i < m) (g : Ringed R m) (hh : ∀ p q a, tie R p q = some a → a = r - h p + h q + (if p = i ∧ q = (i + 1) % m then e else 0)) : WkN R m 0 m 0 (tmU m r) ∧ WkN R m 0 m 0 (tmU m r + e) := by
  have stay : ∀ k, WkN R m 0 k 0 (tmU k r) := by
    intro k
    induction k with
    | zero => exact WkN.zero.mpr ⟨by omega, rfl, rfl⟩
    | succ k ih =>
      obtain ⟨a, ha⟩ := g.slant 0 (by omega)
      have e1 := hh 0 0 a ha
      rw [if_neg (by
        rintro ⟨rfl, h2⟩
        rw [Nat.mod_eq_of_lt (by omega)] at h2
        omega)] at e1
      refine WkN.succ.mpr ⟨0, _, a, ih, ha, ?_⟩
      rw [e1]
      simp only [tmU]
      grind
  have round : ∀ k, k ≤ m → WkN R m 0 k (k % m) (tmU k r - h 0 + h (k % m) + (if i < k then e else 0)) := by
    intro k
    induction k with
    | zero =>
      intro _
      refine WkN.zero.mpr ⟨by omega, Nat.zero_mod m, ?_⟩
      rw [Nat.zero_mod, if_neg (by omega)]
      simp only [tmU]
      grind
    | succ k ih =>
      intro hk
      have h1 := ih (by omega)
      rw [Nat.mod_eq_of_lt (show k < m by omega)] at h1
      obtain ⟨a, ha⟩ := g.ring k (by omega)
      have e1 := hh _ _ a ha
      refine WkN.succ.mpr ⟨k, _, a, h1, ha, ?_⟩
      rw [e1]
      simp only [tmU]
      by_cases q : i < k
      · rw [if_pos q, if_pos (show i < k + 1 by omega), if_neg (by rintro ⟨h, _⟩; omega)]
        grind
      · by_cases q2 : k = i
        · subst q2
          rw [if_neg q, if_pos (show k < k + 1 by omega), if_pos ⟨rfl, rfl⟩]
          grind
        · rw [if_neg q, if_neg (show ¬ i < k + 1 by omega), if_neg (by rintro ⟨h, _⟩; omega)]
          grind
  have h2 := round m (Nat.le_refl _)
  rw [Nat.mod_self, if_pos hi] at h2
  refine ⟨stay m, ?_⟩
  have e2 : tmU m r - h 0 + h 0 + e = tmU m r + e := by grind
  rw [← e2]
  exact h2
def S_law_great_right : Spec := fun zs rs P _ => ∃ (w : V) (o : O), zs = [.raw w] ∧ rs = [(w, o)] ∧ Hnd o ∧ ∀ o', Hnd o' → P (.s (.bl true)) [(w, o')]
theorem f__law_great_right {g : Pg} {C fG : Addr} (G : GridC g C fG) (hd : Dx g "_law_great_right" st__law_great_right) (fI : FnI g fG 6 (S_Grid_init C)) (f0 : Fn g "_law_draw" 1 S_law_draw) (f1 : Fn g "_law_raised" 4 S_law_raised) (f2 : Fn g "_law_great" 4 S_law_great) (f3 : Fn g "_law_unit_sum" 3 S_law_unit_sum) (f4 : Fn g "keeps" 8 (S_keeps C)) (f5 : Fn g "power_verdict" 6 (S_power_verdict C)) (m1 : g.mg "range" = none) (m3 : g.mg "len" = none) : Fn g "_law_great_right" 9 S_law_great_right := by
  refine fm__law_great_right hd (fun zs rs P P2 h => by obtain ⟨i, a, rfl, _⟩ := h; rfl) fun zs rs P P2 h => ?_
  obtain ⟨w, o, rfl, rfl, hH, hP⟩ := h
  refine r_nox ?_
  walk_at "y0"
  walk_at "ys"
  walk_at "yn1"
  refine ⟨w, o, rfl, rfl, hH, fun o b m hs rate hH hb1 hb2 hm1 hm2 hl hu hrate => ?_⟩
  walk_at "yd"
  walk_at "ys"
  walk_at "yn1"
  refine ⟨w, o, b, m, hs.map fun u => rate - u, hs, by rw [List.map_map]; rfl, rfl, hH, hb1, hb2, hm1, hm2, by simp [hl], hl, ?_, hu, fun o R i0 hH hR hi0 => ?_⟩
  · intro u hu'
    obtain ⟨v, hv, rfl⟩ := List.mem_map.mp hu'
    exact hrate.sub (hu v hv)
  have hgv := hR.gv hb1 (by omega) (by omega) hm2
  walk_at "yd"
  have Gm := G.gm
  have Gk := G.gk
  walk_at "ygs"
  refine r_cons ?_
  walk_at "yset"
  refine EO.toE ?_
  walk_at "ymk"
  walk_at "ys"
  intro wg
  rw [rate.2]
  refine ⟨b, m, m, R, wg, rfl, rfl, hgv, rfl, _, rfl, ?_⟩
  rw [fz_gO]
  walk_at "yx"
  have hm0 : 0 < m := by omega
  cases i0 with
  | some i =>
    have hi := hi0 i rfl
    have hne := e1U_ne hb1
    simp only [Option.isSome_some]
    walk_at "yS"
    walk_at "yn"
    refine ⟨b, m, R, rfl, rfl, hgv, fun _ => ?_, fun hU => absurd hU (hR.not hb1 (by omega) hi)⟩
    walk_at "yd"
    walk_at "yS"
    walk_at "yn"
    refine ⟨b, m, m, 0, 0, R, by rw [hR.len]; rfl, rfl, hgv, by omega, by omega, hm0, hm0, fun l hM => ?_⟩
    obtain ⟨h1, h2⟩ := bent_wk (r := rate) (e := e1U b) (h := fun p => hs.getD p 0) (by omega) hi hR.ringed (fun p q a e => by
      have := hR.hh p q a e
      rw [this]
      congr 1
      by_cases q1 : p = i ∧ q = (i + 1) % m
      · rw [if_pos q1, if_pos]; obtain ⟨rfl, rfl⟩ := q1; exact ⟨rfl, rfl⟩
      · rw [if_neg q1, if_neg]; rintro ⟨q2, q3⟩; apply q1; cases q2; exact ⟨rfl, q3⟩)
    have h3 := hM.two_of h1 h2 (fun e => hne (by grind))
    rw [vd_two h3]
    walk_at "yd"
    walk_at "ys"
    exact fin_one .hd (hP o hH)
  | none =>
    simp only [Option.isSome_none]
    walk_at "yS"
    walk_at "yn1"
    refine ⟨w, o, m, by rw [hR.len], rfl, hH, hm0, by omega, fun o i hH hi => ?_⟩
    walk_at "yd"
    walk_at "yS"
    walk_at "yn1"
    refine ⟨w, o, m, by rw [hR.len], rfl, hH, hm0, by omega, fun o j hH hj => ?_⟩
    walk_at "yd"
    walk_at "yS"
    walk_at "yn1"
    refine ⟨w, o, 30, rfl, rfl, hH, by decide, by decide, fun o sz hH hsz => ?_⟩
    walk_at "yd"
    rw [hR.len]
    refine op_addI ?_
    rw [← Int.natCast_add]
    obtain ⟨uj, huj⟩ : ∃ u, hs[j]? = some u := ⟨_, List.getElem?_eq_getElem (by omega)⟩
    obtain ⟨ui, hui⟩ : ∃ u, hs[i]? = some u := ⟨_, List.getElem?_eq_getElem (by omega)⟩
    have wj := hu uj (List.mem_of_getElem? huj)
    have wi := hu ui (List.mem_of_getElem? hui)
    have hd : ∀ p v, hs[p]? = some v → hs.getD p 0 = v := fun p v e => by rw [List.getD_eq_getElem?_getD, e]; rfl
    walk_at "yS"
    refine ⟨_, _, rfl, ixD_nat (z := uD uj) (by rw [List.getElem?_map, huj]; rfl), ?_⟩
    walk_at "yS"
    refine ⟨_, _, rfl, ixD_nat (z := uD ui) (by rw [List.getElem?_map, hui]; rfl), ?_⟩
    walk_at "yS"
    walk_at "yn"
    refine ⟨b, uj, ui, false, rfl, rfl, by omega, wj.uz (by decide), wi.uz (by decide), ?_⟩
    simp only [Bool.false_eq_true, if_false]
    walk_at "yd"
    walk_at "yx"
    walk_at "yz"
    refine r_cut (fun env2 => ∃ x12, env2 = ⟨[some (.raw w), some (.lst (hs.map fun u => uD u)), some (uD rate), some (.lst (hs.map fun u => uD (rate - u))), some (.lst (hs.map fun u => uD u)), some (grU R), some (.bl false), some (gD C R), some (.int i), some (.int j), some (.int (m + sz : Nat)), some (uD (uj - ui + tmU (m + sz) rate)), x12], [(w, o)]⟩) ?_ fun env2 ⟨x12, e⟩ => ?_
    · refine s_for ?_ (by intro _ _; rfl)
      refine it_rng m1 (by walk_at "yk") ?_ (by intro _; rfl)
      walk_at "ys"
      refine ⟨m + sz, rfl, by omega, fun k env2 => ∃ x12, env2 = ⟨[some (.raw w), some (.lst (hs.map fun u => uD u)), some (uD rate), some (.lst (hs.map fun u => uD (rate - u))), some (.lst (hs.map fun u => uD u)), some (grU R), some (.bl false), some (gD C R), some (.int i), some (.int j), some (.int (m + sz : Nat)), some (uD (uj - ui + tmU k rate)), x12], [(w, o)]⟩ ∧ Wu (2 + k) (uj - ui + tmU k rate), ?_, fun _ _ _ _ => trivial, fun k z env2 hz ⟨x12, e, hw⟩ => ?_, fun env2 ⟨x12, e, hw⟩ => ?_⟩
      · have e1 : uj - ui + tmU 0 rate = uj - ui := by simp only [tmU]; grind
        dsimp only
        rw [e1]
        exact ⟨_, rfl, wj.sub wi⟩
      · subst e
        obtain ⟨hk, rfl⟩ := rng_get hz
        walk_at "ys"
        walk_at "yn"
        refine ⟨b, uj - ui + tmU k rate, rate, true, rfl, rfl, by omega, hw.uz (by omega), hrate.uz (by decide), ?_⟩
        simp only [if_true]
        walk_at "yd"
        walk_at "ys"
        have e1 : uj - ui + tmU k rate + rate = uj - ui + tmU (k + 1) rate := by simp only [tmU]; grind
        rw [e1]
        refine ⟨_, rfl, ?_⟩
        rw [← e1]
        exact (hw.add hrate).mono (by omega)
      · rw [rng_len] at e
        exact ⟨x12, e⟩
    subst e
    walk_at "yS"
    walk_at "yn"
    refine ⟨b, m, R, rfl, rfl, hgv, fun hn => absurd hR.uniq hn, fun _ => ?_⟩
    walk_at "yd"
    walk_at "yS"
    walk_at "yn"
    refine ⟨b, m, m + sz, i, j, R, rfl, rfl, hgv, by omega, by omega, hi, hj, fun l hM => ?_⟩
    have hh : ∀ p q a, tie R p q = some a → a = rate - hs.getD p 0 + hs.getD q 0 := fun p q a e => by
      have := hR.hh p q a e
      rw [if_neg (by simp)] at this
      rw [this]; grind
    obtain ⟨w1, hw1⟩ := hR.ringed.wk_all (t := m + sz) hi hj (by omega)
    have hval := fun v (h : WkN R m i (m + sz) j v) => high_wk (a := i) hh (m + sz) j v h
    have h1 := hM.one_of hw1 (fun v hv => by rw [hval v hv, hval w1 hw1])
    rw [h1]
    walk_at "yd"
    walk_at "yS"
    show Op2 _ _ (uD w1) _ _
    refine op_eqU ?_
    rw [decide_eq_true (by rw [hval w1 hw1, hd i ui hui, hd j uj huj]; grind)]
    exact fin_one .hd (hP o hH)

set_option maxHeartbeats 4000000
/-- the cells right of the slant alone -/
def upR {b : Nat} (R : GR b) : GR b := R.zipIdx.map fun p => List.replicate (p.2 + 1) none ++ p.1.drop (p.2 + 1)
theorem upR_dr {b m : Nat} {R : GR b} (h : Dr m m R) : Dr m m (upR R) := by
  have key : ∀ r ∈ upR R, ∃ i r', R[i]? = some r' ∧ r = List.replicate (i + 1) none ++ r'.drop (i + 1) := fun r hr => by
    obtain ⟨⟨r', i⟩, hp, rfl⟩ := List.mem_map.mp hr
    have := List.mem_zipIdx_iff_getElem?.mp hp
    exact ⟨i, r', this, rfl⟩
  refine ⟨by simp [upR, h.len], fun r hr => ?_, fun r hr u hu => ?_⟩
  · obtain ⟨i, r', hi, rfl⟩ := key r hr
    have h1 := h.row r' (List.mem_of_getElem? hi)
    have h2 : i < m := by rw [← h.len]; exact (List.getElem?_eq_some_iff.mp hi).1
    rw [List.length_append, List.length_replicate, List.length_drop, h1]
    omega
  · obtain ⟨i, r', hi, rfl⟩ := key r hr
    rcases List.mem_append.mp hu with hu | hu
    · have := (List.mem_replicate.mp hu).2
      cases this
    · exact h.cell r' (List.mem_of_getElem? hi) u (List.mem_of_mem_drop hu)
theorem upR_get {b : Nat} {R : GR b} {k : Nat} {r : List (Option (U b))} (h : (upR R)[k]? = some r) : ∃ r', R[k]? = some r' ∧ r = List.replicate (k + 1) none ++ r'.drop (k + 1) := by
  unfold upR at h
  rw [List.getElem?_map, List.getElem?_zipIdx] at h
  cases e : R[k]? with
  | none => rw [e] at h; simp at h
  | some r' => rw [e] at h; simp at h; exact ⟨r', rfl, by rw [← h]⟩
theorem cutN (zs : List D) (k : Nat) : cutD zs (some ((k : Int) + 1)) none = zs.drop (k + 1) := by
  unfold cutD
  have e1 : HT.sIx zs.length 0 (some ((k : Int) + 1)) = min (k + 1) zs.length := by
    simp only [HT.sIx]
    rw [if_neg (by omega)]
    omega
  have e2 : HT.sIx zs.length zs.length none = zs.length := rfl
  rw [e1, e2]
  by_cases h : k + 1 ≤ zs.length
  · rw [Nat.min_eq_left h, List.take_of_length_le (by rw [List.length_drop]; omega)]
  · rw [Nat.min_eq_right (by omega), List.drop_of_length_le (Nat.le_refl _), List.drop_of_length_le (show zs.length ≤ k + 1 by omega), List.take_nil]
theorem upD {b : Nat} (r : List (Option (U b))) (k : Nat) : D.tup ((List.replicate ((k : Int) + 1).toNat [D.non]).flatten ++ cutD (r.map clU) (some ((k : Int) + 1)) none) = rwU (List.replicate (k + 1) none ++ r.drop (k + 1)) := by
  rw [cutN, show ((k : Int) + 1).toNat = k + 1 by omega]
  unfold rwU
  rw [List.map_append, List.map_replicate, List.map_drop]
  congr 2
  generalize k + 1 = n
  induction n with
  | zero => rfl
  | succ n ih => rw [List.replicate_succ, List.replicate_succ, List.flatten_cons, ih]; rfl
theorem pl_first {l : List Nat} (h : l ≠ []) : ∃ x, l.head? = some x ∧ ixD (plD l) 0 = some (.int (x : Nat)) := by
  cases l with
  | nil => exact absurd rfl h
  | cons x l => exact ⟨x, rfl, ixD_nat (k := 0) rfl⟩
theorem pl_last {l : List Nat} (h : l ≠ []) : ∃ x, l.getLast? = some x ∧ ixD (plD l) (-1) = some (.int (x : Nat)) := by
  obtain ⟨l', x, rfl⟩ : ∃ l' x, l = l' ++ [x] := ⟨l.dropLast, l.getLast h, (List.dropLast_concat_getLast h).symm⟩
  refine ⟨x, by simp, ?_⟩
  simp only [ixD, plD, List.map_append, List.map_cons, List.map_nil]
  unfold L2.atI
  have e : L2.ixN (l'.map (fun i => D.int (i : Nat)) ++ [D.int x]).length (-1) = some l'.length := by
    simp [L2.ixN]
    omega
  rw [e]
  simp
theorem cz_lenP {c : Ctx} {env : Ev} {l : List Nat} {Φ : D → Prop} (h : Φ (.int l.length)) : ∃ ys, Seens env [plD l] ys ∧ Cb c (.builtin "len") ys Φ := by
  refine cz_lenT ?_
  rw [List.length_map]
  exact h
theorem Pl.vd {b : Nat} (l : List (U b)) : Pl 2 (vdD l) := by
  match l with
  | [] => exact ⟨by simp only [vdD, D.plain], by simp only [vdD, D.py, PyData.canLay0]; decide +kernel, by simp only [vdD, D.py, PyData.depth]; omega⟩
  | [w] => exact .un _
  | _ :: _ :: _ => exact .non
theorem eqv_vd {b : Nat} (l : List (U b)) : PyData.eqv (vdD l).py D.non.py = (vdD l).isNon := by
  match l with
  | [] => simp only [vdD, D.py, PyData.eqv, D.isNon]
  | [w] => simp only [vdD, uD, un, D.py, PyData.eqv, D.isNon]
  | _ :: _ :: _ => simp only [vdD, D.py, PyData.eqv, D.isNon]
theorem isIn_vd {b : Nat} (ls : List (List (U b))) : isInD .non (ls.map vdD) = ls.any fun l => (vdD l).isNon := by
  unfold isInD
  rw [List.any_map]
  congr 1
  funext l
  exact eqv_vd l
def anyN {b : Nat} (cs : List (List (List (U b)))) : Bool := cs.any fun row => row.any fun l => (vdD l).isNon
def dueD {b : Nat} (R : GR b) (m : Nat) (d : D) : Prop := (d = .non ∧ Uniq R m) ∨ ∃ t : Nat, d = .int t ∧ t + 1 ≤ 2 * (m * m) ∧ UnAt R m t ∧ ∀ t', t' < t → ¬ UnAt R m t'
theorem body_law {g : Pg} {C fG : Addr} (G : GridC g C fG) (fI : FnI g fG 6 (S_Grid_init C)) (f0 : Fn g "_law_hand" 1 S_law_hand) (f1 : Fn g "_law_draw" 1 S_law_draw) (f2 : Fn g "_law_great_right" 9 S_law_great_right) (f3 : Fn g "_law_evened" 5 S_law_evened) (f4 : Fn g "unlike_rows" 8 (S_unlike_rows C)) (f5 : Fn g "power_verdict" 6 (S_power_verdict C)) (f6 : Fn g "keeps" 8 (S_keeps C)) (f7 : Fn g "_law_shortest" 5 S_law_shortest) (m1 : g.mg "range" = none) (m2 : g.mg "isinstance" = none) (m3 : g.mg "bool" = none) (m4 : g.mg "len" = none) (m5 : g.mg "any" = none) (m6 : g.mg "tuple" = none) (m7 : g.mg "enumerate" = none) (zs : List D) (rs : Rs) (P : O → Rs → Prop) (P2 : Value → Pay → Prop) (h : S_law zs rs P P2) : R (g.ctx nm_law 10 P2) N_law ⟨startD N_law zs, rs⟩ (defBody st_law) (Pst P) := by
  obtain ⟨ns, rfl, rfl, hl, hP⟩ := h
  have Gm := G.gm
  have Gk := G.gk
  refine r_nox ?_
  walk_at "y0"
  walk_at "ynew"
  walk_at "yco"
  walk_at "ys"
  walk_at "yn"
  refine ⟨ns, rfl, rfl, hl, fun o hH => ?_⟩
  walk_at "yd"
  intro w
  walk_at "yx"
  walk_at "yz"
  refine r_cut (fun env2 => ∃ o', env2 = ⟨[some (.lst (ns.map D.int)), some (.raw w), none, none, none, none, none, none, none, none, none, none, none, none, none], [(w, o')]⟩ ∧ Hnd o') ?_ fun env2 ⟨o', e, hH⟩ => ?_
  · walk_at "ys"
    walk_at "yn1"
    refine ⟨w, o, 8, rfl, rfl, hH, by decide, by decide, fun o2 t hH ht => ?_⟩
    walk_at "yd"
    walk_at "ys"
    refine ⟨fun h => ?_, fun h => ?_⟩
    · walk_at "ys"
      walk_at "yn1"
      refine ⟨w, o2, rfl, rfl, hH, fun o3 hH => ?_⟩
      walk_at "yd"
      walk_at "ys"
      exact ⟨o3, rfl, hH⟩
    · walk_at "ys"
      exact ⟨o2, rfl, hH⟩
  subst e
  refine r_cut (fun env2 => ∃ o' x2 x3 x4 x5 x6 x7 x8 x9 x10 x11 x12 x13 x14, env2 = ⟨[some (.lst (ns.map D.int)), some (.raw w), x2, x3, x4, x5, x6, x7, x8, x9, x10, x11, x12, x13, x14], [(w, o')]⟩ ∧ Hnd o') ?_ fun env2 ⟨o', x2, x3, x4, x5, x6, x7, x8, x9, x10, x11, x12, x13, x14, e, hH⟩ => ?_
  rotate_left
  · subst e
    walk_at "ys"
    exact fin_nil hP
  refine s_for ?_ (by intro _ _; rfl)
  refine it_rng m1 (by walk_at "yk") ?_ (by intro _; rfl)
  walk_at "ys"
  refine ⟨2, rfl, by decide, fun _ env2 => ∃ o' x2 x3 x4 x5 x6 x7 x8 x9 x10 x11 x12 x13 x14, env2 = ⟨[some (.lst (ns.map D.int)), some (.raw w), x2, x3, x4, x5, x6, x7, x8, x9, x10, x11, x12, x13, x14], [(w, o')]⟩ ∧ Hnd o', ⟨_, _, _, _, _, _, _, _, _, _, _, _, _, _, rfl, hH⟩, fun _ _ _ _ => trivial, fun k z env2 hz ⟨o', x2, x3, x4, x5, x6, x7, x8, x9, x10, x11, x12, x13, x14, e, hH⟩ => ?_, fun env2 h => h⟩
  subst e
  obtain ⟨hk, rfl⟩ := rng_get hz
  obtain ⟨most, hmost, hmb⟩ : ∃ most : Nat, ixD (.lst [.int 4, .int 3]) (k : Nat) = some (.int most) ∧ 1 ≤ most ∧ most ≤ 4 := by
    have : k = 0 ∨ k = 1 := by omega
    rcases this with rfl | rfl
    · exact ⟨4, rfl, by decide, by decide⟩
    · exact ⟨3, rfl, by decide, by decide⟩
  walk_at "ys"
  refine ⟨_, _, rfl, hmost, ?_⟩
  walk_at "ys"
  walk_at "yn1"
  refine ⟨w, o', most, rfl, rfl, hH, hmb.1, by omega, fun o b m R0 hH hb1 hb2 hm1 hm2 hR0 => ?_⟩
  walk_at "yd"
  walk_at "yx"
  refine r_cut (fun env2 => ∃ (o' : O) (R : GR b) (x4 x12 x13 : Option D), env2 = ⟨[some (.lst (ns.map D.int)), some (.raw w), some (.int k), some (.tup [.int b, grU R]), x4, x5, x6, x7, x8, x9, x10, x11, x12, x13, x14], [(w, o')]⟩ ∧ Hnd o' ∧ Dr m m R) ?_ fun env2 ⟨o', R, x4, x12, x13, e, hH, hR⟩ => ?_
  · walk_at "yS"
    walk_at "yn1"
    refine ⟨w, o, 8, rfl, rfl, hH, by decide, by decide, fun o2 t hH ht => ?_⟩
    walk_at "yd"
    walk_at "yS"
    refine ⟨fun h => ?_, fun h => ?_⟩
    · walk_at "yS"
      refine e_lcT [("_law_i", 12), ("_law_row", 13)] (by kernel_rfl) ?_ (by intro _ _; rfl)
      refine it_enum m7 (by walk_at "yk") ?_ (by intro _; rfl)
      walk_at "ys"
      refine ⟨_, rfl, (upR R0).map rwU, by rw [enumD_length, List.length_map, List.length_map]; simp [upR], by rw [enumD_length, List.length_map, hR0.len]; omega, fun _ _ _ => trivial, fun i z y hz hy => ?_, ?_⟩
      · obtain ⟨z', hz1, rfl⟩ := enumD_get hz
        obtain ⟨r, hr, rfl⟩ := map_get hz1
        obtain ⟨r2, hr2, rfl⟩ := map_get hy
        obtain ⟨r3, hr3, rfl⟩ := upR_get hr2
        rw [hr] at hr3
        cases hr3
        have hrl := hR0.row r (List.mem_of_getElem? hr)
        have hi : i < m := by rw [← hR0.len]; exact (List.getElem?_eq_some_iff.mp hr).1
        refine ⟨_, by walk_at "ybd", by simp, ?_⟩
        walk_at "yw"
        simp only [rwU]
        walk_at "yS"
        refine op_repT (by simp) (by omega) (by omega) (by decide) ?_
        walk_at "yS"
        refine op_catT ?_ ?_
        · have h1 : (cutD (r.map clU) (some ((i : Int) + 1)) none).length ≤ 10 := Nat.le_trans cutD_len (by rw [List.length_map]; omega)
          have h2 : ((List.replicate ((i : Int) + 1).toNat [D.non]).flatten).length ≤ 10 := by
            rw [List.length_flatten, List.map_replicate, List.sum_replicate_nat]
            simp
            omega
          omega
        rw [upD]
        exact ⟨rfl, rfl⟩
      walk_at "yS"
      refine cbF_tuple rfl ?_
      walk_at "yS"
      exact ⟨o2, upR R0, _, _, _, rfl, hH, upR_dr hR0⟩
    · walk_at "yS"
      exact ⟨o2, R0, _, _, _, rfl, hH, hR0⟩
  subst e
  have hgv := hR.gv hb1 (by omega) hm1 (by omega) hm1 (by omega)
  refine r_cons ?_
  walk_at "yset"
  refine EO.toE ?_
  walk_at "ymk"
  walk_at "ys"
  intro wg
  refine ⟨b, m, m, R, wg, rfl, rfl, hgv, rfl, _, rfl, ?_⟩
  rw [fz_gO]
  walk_at "yx"
  refine r_cut (fun env2 => env2 = ⟨[some (.lst (ns.map D.int)), some (.raw w), some (.int k), some (.tup [.int b, grU R]), x4, some (gD C R), some (.int m), x7, x8, x9, x10, x11, x12, x13, x14], [(w, o')]⟩) ?_ fun env2 e => ?_
  · walk_at "ys"
    rw [hgv.sq.len]
  subst e
  refine r_cut (fun env2 => ∃ d, env2 = ⟨[some (.lst (ns.map D.int)), some (.raw w), some (.int k), some (.tup [.int b, grU R]), x4, some (gD C R), some (.int m), some d, x8, x9, x10, x11, x12, x13, x14], [(w, o')]⟩ ∧ dueD R m d) ?_ fun env2 ⟨d, e, hd⟩ => ?_
  · walk_at "ys"
    walk_at "yn"
    refine ⟨b, m, R, rfl, rfl, hgv.sq, hm1, by omega, hgv.tb, by omega, fun hU => ?_, fun t hun hmin => ?_⟩
    · walk_at "yd"
      walk_at "ys"
      exact ⟨_, rfl, .inl ⟨rfl, hU⟩⟩
    · walk_at "yd"
      walk_at "ys"
      refine ⟨_, rfl, .inr ⟨t, rfl, ?_, hun, hmin⟩⟩
      obtain ⟨t2, h1, h2⟩ := UnAt.of hgv.sq (hun.not_uniq hgv.sq)
      have : ¬ t2 < t := fun h => hmin t2 h h2
      omega
  subst e
  have hmm : m * m ≤ 4 * 4 := Nat.mul_le_mul (by omega) (by omega)
  have hdn : d.isNon = true ↔ Uniq R m := by
    rcases hd with ⟨rfl, hU⟩ | ⟨t, rfl, _, hun, _⟩
    · exact ⟨fun _ => hU, fun _ => rfl⟩
    · exact ⟨fun h => (nomatch h), fun hU => absurd hU (hun.not_uniq hgv.sq)⟩
  -- keeps
  refine r_cut (fun env2 => ∃ kp, env2 = ⟨[some (.lst (ns.map D.int)), some (.raw w), some (.int k), some (.tup [.int b, grU R]), x4, some (gD C R), some (.int m), some d, some (.bl kp), x9, x10, x11, x12, x13, x14], [(w, o')]⟩ ∧ kp = d.isNon) ?_ fun env2 ⟨kp, e, hkp⟩ => ?_
  · walk_at "ys"
    walk_at "yn"
    refine ⟨b, m, R, rfl, rfl, hgv, fun hn => ?_, fun hU => ?_⟩
    · walk_at "yd"
      walk_at "ys"
      refine ⟨_, rfl, ?_⟩
      cases e : d.isNon with
      | true => exact absurd (hdn.mp e) hn
      | false => rfl
    · walk_at "yd"
      walk_at "ys"
      exact ⟨_, rfl, (hdn.mpr hU).symm⟩
  subst e
  refine r_cut (fun env2 => env2 = ⟨[some (.lst (ns.map D.int)), some (.raw w), some (.int k), some (.tup [.int b, grU R]), x4, some (gD C R), some (.int m), some d, some (.bl kp), x9, x10, x11, x12, x13, x14], [(w, o')]⟩) ?_ fun env2 e => ?_
  · walk_at "ys"
    refine op_neBB ?_
    rw [hkp]
    rw [show (!(d.isNon == d.isNon)) = false by simp]
    walk_at "ys"
    exact rfl
  subst e
  refine r_cut (fun env2 => ∃ pd, env2 = ⟨[some (.lst (ns.map D.int)), some (.raw w), some (.int k), some (.tup [.int b, grU R]), x4, some (gD C R), some (.int m), some d, some (.bl kp), some pd, x10, x11, x12, x13, x14], [(w, o')]⟩ ∧ ((pd = .non ∧ d = .non ∧ Uniq R m) ∨ ∃ (t a z : Nat) (f s : List Nat) (w v : U b), d = .int t ∧ pd = .tup [plD f, plD s] ∧ Wlk R m a t f z w ∧ Wlk R m a t s z v ∧ w ≠ v ∧ t + 1 ≤ 2 * (m * m) ∧ UnAt R m t ∧ ∀ t', t' < t → ¬ UnAt R m t')) ?_ fun env2 ⟨pd, e, hpd⟩ => ?_
  · walk_at "ys"
    walk_at "yn"
    refine ⟨b, m, R, rfl, rfl, hgv, fun hU => ?_, fun t a z f s w v hU hsh ht hw1 hw2 hne => ?_⟩
    · walk_at "yd"
      walk_at "ys"
      rcases hd with ⟨rfl, _⟩ | ⟨t, rfl, _, hun, _⟩
      · exact ⟨_, rfl, .inl ⟨rfl, rfl, hU⟩⟩
      · exact absurd hU (hun.not_uniq hgv.sq)
    · walk_at "yd"
      walk_at "ys"
      rcases hd with ⟨rfl, hU2⟩ | ⟨t2, rfl, h1, hun, hmin⟩
      · exact absurd hU2 hU
      · have h2 : UnAt R m t := unAt_iff.mpr ⟨a, z, w, v, ⟨f, hw1⟩, ⟨s, hw2⟩, hne⟩
        obtain rfl : t2 = t := by
          have h3 : ¬ t < t2 := fun h => hmin t h h2
          have h4 : ¬ t2 < t := fun h => hsh t2 h hun
          omega
        exact ⟨_, rfl, .inr ⟨t2, a, z, f, s, w, v, rfl, rfl, hw1, hw2, hne, h1, hun, hmin⟩⟩
  subst e
  clear hd
  refine r_cut (fun env2 => env2 = ⟨[some (.lst (ns.map D.int)), some (.raw w), some (.int k), some (.tup [.int b, grU R]), x4, some (gD C R), some (.int m), some d, some (.bl kp), some pd, x10, x11, x12, x13, x14], [(w, o')]⟩) ?_ fun env2 e => ?_
  · rcases hpd with ⟨rfl, rfl, hU⟩ | ⟨t, a, z, f, s, w1, v1, rfl, rfl, hw1, hw2, hne, h1, hun, hmin⟩
    · walk_at "ys"
      refine op_neBB ?_
      walk_at "ys"
      exact rfl
    · obtain ⟨_, _, hlen, _⟩ := hw1.start hgv.sq
      walk_at "ys"
      refine op_neBB ?_
      walk_at "ys"
      refine cz_lenP ?_
      walk_at "ys"
      rw [show (!decide ((f.length : Int) = (t : Int) + 1)) = false by rw [hlen]; simp]
      walk_at "ys"
      exact rfl
  subst e
  -- the size
  refine r_cut (fun env2 => ∃ (o' : O) (sz : Nat), env2 = ⟨[some (.lst (ns.map D.int)), some (.raw w), some (.int k), some (.tup [.int b, grU R]), x4, some (gD C R), some (.int m), some d, some (.bl kp), some pd, some (.int sz), x11, x12, x13, x14], [(w, o')]⟩ ∧ Hnd o' ∧ 1 ≤ sz ∧ sz ≤ 9) ?_ fun env2 ⟨o', sz, e, hH, hs1, hs2⟩ => ?_
  · walk_at "ys"
    walk_at "yn1"
    refine ⟨w, _, 9, rfl, rfl, hH, by decide, by decide, fun o2 t hH ht => ?_⟩
    walk_at "yd"
    walk_at "ys"
    exact ⟨o2, 1 + t, by rw [Int.natCast_add]; rfl, hH, by omega, by omega⟩
  subst e
  refine r_cut (fun env2 => ∃ (cs : List (List (List (U b)))) (x12 x13 x14 : Option D), env2 = ⟨[some (.lst (ns.map D.int)), some (.raw w), some (.int k), some (.tup [.int b, grU R]), x4, some (gD C R), some (.int m), some d, some (.bl kp), some pd, some (.int sz), some (.lst (cs.map fun row : List (List (U b)) => .lst (row.map vdD))), x12, x13, x14], [(w, o')]⟩ ∧ cs.length = m ∧ ∀ (i : Nat) row, cs[i]? = some row → ∀ (j : Nat) l, row[j]? = some l → Mt R m i sz j l) ?_ fun env2 ⟨cs, x12, x13, x14, e, hcl, hcs⟩ => ?_
  · refine s_setLcD [("_law_i", 12)] (by kernel_rfl) ?_ (by walk_at "yk") (by walk_at "yi") (by intro _ _; rfl) (by rfl) (by rfl)
    refine it_rng m1 (by walk_at "yk") ?_ (by intro _; rfl)
    walk_at "ys"
    refine ⟨_, rfl, by omega, fun rs => rs = [(w, o')], fun i y => ∃ row : List (List (U b)), y = .lst (row.map vdD) ∧ ∀ (j : Nat) l, row[j]? = some l → Mt R m i sz j l, rfl, by simp; omega, fun _ _ _ _ _ => trivial, fun i z rs hz e => ?_, fun ys rs hl hp e => ?_⟩
    · subst e
      obtain ⟨hi, rfl⟩ := rng_get hz
      refine ⟨_, by walk_at "ybd", by simp, ?_⟩
      walk_at "yw"
      refine e_lcD [("_law_j", 14)] (by kernel_rfl) ?_ (by intro _ _; rfl)
      refine it_rng m1 (by walk_at "yk") ?_ (by intro _; rfl)
      walk_at "ys"
      refine ⟨_, rfl, by omega, fun rs => rs = [(w, o')], fun j y => ∃ l : List (U b), y = vdD l ∧ Mt R m i sz j l, rfl, by simp; omega, fun _ _ _ _ _ => trivial, fun j z rs hz e => ?_, fun ys rs hl hp e => ?_⟩
      · subst e
        obtain ⟨hj, rfl⟩ := rng_get hz
        refine ⟨_, by walk_at "ybd", by simp, ?_⟩
        walk_at "yw"
        walk_at "ys"
        walk_at "yn"
        refine ⟨b, m, sz, i, j, R, rfl, rfl, hgv, hs1, by omega, hi, hj, fun l hM => ?_⟩
        exact ⟨⟨l, rfl, hM⟩, rfl⟩
      · subst e
        obtain ⟨row, rfl, hrow⟩ := all_at hp
        exact ⟨⟨row, rfl, hrow⟩, rfl⟩
    · subst e
      obtain ⟨cs, rfl, hcs⟩ := all_at hp
      walk_at "yx"
      exact ⟨cs, _, _, _, rfl, by simpa using hl, hcs⟩
  subst e
  have hno : anyN cs = true → UnAt R m sz := fun h => by
    obtain ⟨row, h1, h⟩ := List.any_eq_true.mp h
    obtain ⟨l, h2, h⟩ := List.any_eq_true.mp h
    obtain ⟨i, hi⟩ := List.mem_iff_getElem?.mp h1
    obtain ⟨j, hj⟩ := List.mem_iff_getElem?.mp h2
    obtain ⟨w, v, h3, h4, h5⟩ := (hcs i row hi j l hj).non h
    exact unAt_iff.mpr ⟨i, j, w, v, h3, h4, h5⟩
  refine r_cut (fun env2 => env2 = ⟨[some (.lst (ns.map D.int)), some (.raw w), some (.int k), some (.tup [.int b, grU R]), x4, some (gD C R), some (.int m), some d, some (.bl kp), some pd, some (.int sz), some (.lst (cs.map fun row : List (List (U b)) => .lst (row.map vdD))), x12, x13, x14], [(w, o')]⟩) ?_ fun env2 e => ?_
  · rcases hpd with ⟨rfl, rfl, hU⟩ | ⟨t, a, z, f, s, w1, v1, rfl, rfl, hw1, hw2, hne, h1, hun, hmin⟩
    · refine s_if (TW.t (tw_and (t_isN ?_)))
      walk_at "ys"
      refine e_lcT [("_law_row", 13)] (by kernel_rfl) ?_ (by intro _ _; rfl)
      refine it_lst ?_
      walk_at "ys"
      refine ⟨_, rfl, cs.map fun row => .bl (row.any fun l => (vdD l).isNon), by simp, by rw [List.length_map, hcl]; omega, fun _ _ _ => trivial, fun k3 z y hz hy => ?_, ?_⟩
      · obtain ⟨row, hrow, rfl⟩ := map_get hz
        obtain ⟨row2, hrow2, rfl⟩ := map_get hy
        rw [hrow] at hrow2
        cases hrow2
        refine ⟨_, by walk_at "ybd", by simp, ?_⟩
        walk_at "yw"
        refine e_inL ?_ (by rfl)
        walk_at "ys"
        refine ⟨_, 2, .fr, .non, fun z hz => ?_, by decide, ?_⟩
        · obtain ⟨l, _, rfl⟩ := List.mem_map.mp hz
          exact .vd l
        rw [isIn_vd]
        exact ⟨rfl, rfl⟩
      walk_at "ys"
      refine cz_any (bs := cs.map fun row => row.any fun l => (vdD l).isNon) (by rw [List.map_map]; rfl) ?_
      walk_at "yd"
      rw [List.any_map, show (cs.any (id ∘ fun row => row.any fun l => (vdD l).isNon)) = anyN cs from rfl]
      refine ⟨_, rfl, ?_⟩
      cases hA : anyN cs with
      | true => exact absurd hU ((hno hA).not_uniq hgv.sq)
      | false =>
        walk_at "ys"
        exact rfl
    · walk_at "ys"
      exact rfl
  subst e
  refine r_cut (fun env2 => env2 = ⟨[some (.lst (ns.map D.int)), some (.raw w), some (.int k), some (.tup [.int b, grU R]), x4, some (gD C R), some (.int m), some d, some (.bl kp), some pd, some (.int sz), some (.lst (cs.map fun row : List (List (U b)) => .lst (row.map vdD))), x12, x13, x14], [(w, o')]⟩) ?_ fun env2 e => ?_
  · rcases hpd with ⟨rfl, rfl, hU⟩ | ⟨t, a, z, f, s, w1, v1, rfl, rfl, hw1, hw2, hne, h1, hun, hmin⟩
    · walk_at "ys"
      exact rfl
    · refine s_if (TW.t (tw_and (t_notN ?_)))
      walk_at "ys"
      by_cases hlt : sz < t
      · rw [decide_eq_true (show (sz : Int) < (t : Int) by omega)]
        refine br_t rfl ?_
        refine tw_and1 (t_val ?_ (by intro _ _; rfl))
        walk_at "yb"
        refine ea_cons ?_ (by intro _; rfl)
        refine e_lcT [("_law_row", 13)] (by kernel_rfl) ?_ (by intro _ _; rfl)
        refine it_lst ?_
        walk_at "ys"
        refine ⟨_, rfl, cs.map fun row => .bl (row.any fun l => (vdD l).isNon), by simp, by rw [List.length_map, hcl]; omega, fun _ _ _ => trivial, fun k3 z y hz hy => ?_, ?_⟩
        · obtain ⟨row, hrow, rfl⟩ := map_get hz
          obtain ⟨row2, hrow2, rfl⟩ := map_get hy
          rw [hrow] at hrow2
          cases hrow2
          refine ⟨_, by walk_at "ybd", by simp, ?_⟩
          walk_at "yw"
          refine e_inL ?_ (by rfl)
          walk_at "ys"
          refine ⟨_, 2, .fr, .non, fun z hz => ?_, by decide, ?_⟩
          · obtain ⟨l, _, rfl⟩ := List.mem_map.mp hz
            exact .vd l
          rw [isIn_vd]
          exact ⟨rfl, rfl⟩
        walk_at "ys"
        refine cz_any (bs := cs.map fun row => row.any fun l => (vdD l).isNon) (by rw [List.map_map]; rfl) ?_
        walk_at "yd"
        rw [List.any_map, show (cs.any (id ∘ fun row => row.any fun l => (vdD l).isNon)) = anyN cs from rfl]
        refine ⟨_, rfl, ?_⟩
        cases hA : anyN cs with
        | true => exact absurd (hno hA) (hmin sz hlt)
        | false =>
          walk_at "ys"
          exact rfl
      · rw [decide_eq_false (show ¬ (sz : Int) < (t : Int) by omega)]
        walk_at "ys"
        exact rfl
  subst e
  refine r_cons ?_
  rcases hpd with ⟨rfl, rfl, hU⟩ | ⟨t, a, z, f, s, w1, v1, rfl, rfl, hw1, hw2, hne, h1, hun, hmin⟩
  · walk_at "ys"
    exact ⟨_, _, _, _, _, _, _, _, _, _, _, _, _, _, rfl, hH⟩
  · obtain ⟨ha, hz, hlen, hhd, hlt, hall⟩ := hw1.start hgv.sq
    have hf0 : f ≠ [] := List.ne_nil_of_length_pos (by omega)
    obtain ⟨x1, hx1, hx2⟩ := pl_first hf0
    obtain ⟨x3, hx3, hx4⟩ := pl_last hf0
    rw [hhd] at hx1
    cases hx1
    rw [hlt] at hx3
    cases hx3
    have ht0 : 1 ≤ t := by
      rcases Nat.eq_zero_or_pos t with rfl | h
      · cases hw1
        cases hw2
        exact absurd rfl hne
      · exact h
    walk_at "yS"
    refine ⟨_, _, rfl, hx2, ?_⟩
    walk_at "yS"
    refine ⟨_, _, rfl, hx4, ?_⟩
    walk_at "yS"
    walk_at "yn"
    refine ⟨b, m, t, a, z, R, rfl, rfl, hgv, ht0, by omega, ha, hz, fun l hM => ?_⟩
    rw [vd_two (hM.two_of ⟨f, hw1⟩ ⟨s, hw2⟩ hne)]
    walk_at "yd"
    walk_at "yS"
    exact ⟨_, _, _, _, _, _, _, _, _, _, _, _, _, _, rfl, hH⟩

set_option maxHeartbeats 0
/-! ### the head -/
def fnH : List He.DefD := [⟨("is_integer", none), "is_integer", "is_integer", defArgs st_is_integer, defBody st_is_integer, defScope st_is_integer, [], []⟩,
  ⟨("is_within", none), "is_within", "is_within", defArgs st_is_within, defBody st_is_within, defScope st_is_within, [], []⟩,
  ⟨("check_number", none), "check_number", "check_number", defArgs st_check_number, defBody st_check_number, defScope st_check_number, [], []⟩,
  ⟨("divisor", none), "divisor", "divisor", defArgs st_divisor, defBody st_divisor, defScope st_divisor, [], []⟩,
  ⟨("lowest", none), "lowest", "lowest", defArgs st_lowest, defBody st_lowest, defScope st_lowest, [], []⟩,
  ⟨("is_fraction", none), "is_fraction", "is_fraction", defArgs st_is_fraction, defBody st_is_fraction, defScope st_is_fraction, [], []⟩,
  ⟨("plus", none), "plus", "plus", defArgs st_plus, defBody st_plus, defScope st_plus, [], []⟩,
  ⟨("minus", none), "minus", "minus", defArgs st_minus, defBody st_minus, defScope st_minus, [], []⟩,
  ⟨("is_unit_of", none), "is_unit_of", "is_unit_of", defArgs st_is_unit_of, defBody st_is_unit_of, defScope st_is_unit_of, [], []⟩,
  ⟨("unitless", none), "unitless", "unitless", defArgs st_unitless, defBody st_unitless, defScope st_unitless, [], []⟩,
  ⟨("unit_plus", none), "unit_plus", "unit_plus", defArgs st_unit_plus, defBody st_unit_plus, defScope st_unit_plus, [], []⟩,
  ⟨("unit_minus", none), "unit_minus", "unit_minus", defArgs st_unit_minus, defBody st_unit_minus, defScope st_unit_minus, [], []⟩,
  ⟨("is_part", none), "is_part", "is_part", defArgs st_is_part, defBody st_is_part, defScope st_is_part, [], []⟩,
  ⟨("is_cell", none), "is_cell", "is_cell", defArgs st_is_cell, defBody st_is_cell, defScope st_is_cell, [], []⟩,
  ⟨("check_rows", none), "check_rows", "check_rows", defArgs st_check_rows, defBody st_check_rows, defScope st_check_rows, [], []⟩,
  ⟨("Grid", some "__init__"), "__init__", "Grid.__init__", defArgs st_Grid_init, defBody st_Grid_init, defScope st_Grid_init, [], []⟩,
  ⟨("check_cell", none), "check_cell", "check_cell", defArgs st_check_cell, defBody st_check_cell, defScope st_check_cell, [], []⟩,
  ⟨("turned_rows", none), "turned_rows", "turned_rows", defArgs st_turned_rows, defBody st_turned_rows, defScope st_turned_rows, [], []⟩,
  ⟨("check_square_grid", none), "check_square_grid", "check_square_grid", defArgs st_check_square_grid, defBody st_check_square_grid, defScope st_check_square_grid, [], []⟩,
  ⟨("put_unlike", none), "put_unlike", "put_unlike", defArgs st_put_unlike, defBody st_put_unlike, defScope st_put_unlike, [], []⟩,
  ⟨("power_marks", none), "power_marks", "power_marks", defArgs st_power_marks, defBody st_power_marks, defScope st_power_marks, [], []⟩,
  ⟨("power_verdict", none), "power_verdict", "power_verdict", defArgs st_power_verdict, defBody st_power_verdict, defScope st_power_verdict, [], []⟩,
  ⟨("led_pairs", none), "led_pairs", "led_pairs", defArgs st_led_pairs, defBody st_led_pairs, defScope st_led_pairs, [], []⟩,
  ⟨("differences_ahead", none), "differences_ahead", "differences_ahead", defArgs st_differences_ahead, defBody st_differences_ahead, defScope st_differences_ahead, [], []⟩,
  ⟨("raw_differences", none), "raw_differences", "raw_differences", defArgs st_raw_differences, defBody st_raw_differences, defScope st_raw_differences, [], []⟩,
  ⟨("keeps", none), "keeps", "keeps", defArgs st_keeps, defBody st_keeps, defScope st_keeps, [], []⟩,
  ⟨("longer_by_one", none), "longer_by_one", "longer_by_one", defArgs st_longer_by_one, defBody st_longer_by_one, defScope st_longer_by_one, [], []⟩,
  ⟨("unlike_in", none), "unlike_in", "unlike_in", defArgs st_unlike_in, defBody st_unlike_in, defScope st_unlike_in, [], []⟩,
  ⟨("unlike_rows", none), "unlike_rows", "unlike_rows", defArgs st_unlike_rows, defBody st_unlike_rows, defScope st_unlike_rows, [], []⟩,
  ⟨("_law_hand", none), "_law_hand", "_law_hand", defArgs st__law_hand, defBody st__law_hand, defScope st__law_hand, [], []⟩,
  ⟨("_law_draw", none), "_law_draw", "_law_draw", defArgs st__law_draw, defBody st__law_draw, defScope st__law_draw, [], []⟩,
  ⟨("_law_lowest", none), "_law_lowest", "_law_lowest", defArgs st__law_lowest, defBody st__law_lowest, defScope st__law_lowest, [], []⟩,
  ⟨("_law_plus", none), "_law_plus", "_law_plus", defArgs st__law_plus, defBody st__law_plus, defScope st__law_plus, [], []⟩,
  ⟨("_law_times", none), "_law_times", "_law_times", defArgs st__law_times, defBody st__law_times, defScope st__law_times, [], []⟩,
  ⟨("_law_unit_sum", none), "_law_unit_sum", "_law_unit_sum", defArgs st__law_unit_sum, defBody st__law_unit_sum, defScope st__law_unit_sum, [], []⟩,
  ⟨("_law_unitless", none), "_law_unitless", "_law_unitless", defArgs st__law_unitless, defBody st__law_unitless, defScope st__law_unitless, [], []⟩,
  ⟨("_law_total", none), "_law_total", "_law_total", defArgs st__law_total, defBody st__law_total, defScope st__law_total, [], []⟩,
  ⟨("_law_unit", none), "_law_unit", "_law_unit", defArgs st__law_unit, defBody st__law_unit, defScope st__law_unit, [], []⟩,
  ⟨("_law_rows", none), "_law_rows", "_law_rows", defArgs st__law_rows, defBody st__law_rows, defScope st__law_rows, [], []⟩,
  ⟨("_law_drawn", none), "_law_drawn", "_law_drawn", defArgs st__law_drawn, defBody st__law_drawn, defScope st__law_drawn, [], []⟩,
  ⟨("_law_made", none), "_law_made", "_law_made", defArgs st__law_made, defBody st__law_made, defScope st__law_made, [], []⟩,
  ⟨("_law_evened", none), "_law_evened", "_law_evened", defArgs st__law_evened, defBody st__law_evened, defScope st__law_evened, [], []⟩,
  ⟨("_law_steps_on", none), "_law_steps_on", "_law_steps_on", defArgs st__law_steps_on, defBody st__law_steps_on, defScope st__law_steps_on, [], []⟩,
  ⟨("_law_next", none), "_law_next", "_law_next", defArgs st__law_next, defBody st__law_next, defScope st__law_next, [], []⟩,
  ⟨("_law_whole_unit", none), "_law_whole_unit", "_law_whole_unit", defArgs st__law_whole_unit, defBody st__law_whole_unit, defScope st__law_whole_unit, [], []⟩,
  ⟨("_law_great", none), "_law_great", "_law_great", defArgs st__law_great, defBody st__law_great, defScope st__law_great, [], []⟩,
  ⟨("_law_sided", none), "_law_sided", "_law_sided", defArgs st__law_sided, defBody st__law_sided, defScope st__law_sided, [], []⟩,
  ⟨("_law_raised", none), "_law_raised", "_law_raised", defArgs st__law_raised, defBody st__law_raised, defScope st__law_raised, [], []⟩,
  ⟨("_law_great_right", none), "_law_great_right", "_law_great_right", defArgs st__law_great_right, defBody st__law_great_right, defScope st__law_great_right, [], []⟩,
  ⟨("_law_shortest", none), "_law_shortest", "_law_shortest", defArgs st__law_shortest, defBody st__law_shortest, defScope st__law_shortest, [], []⟩,
  ⟨("law", none), "law", "law", defArgs st_law, defBody st_law, defScope st_law, [], []⟩]
def faH : List He.Fa := [.glo "is_integer", .glo "is_within", .glo "check_number", .glo "divisor", .glo "lowest", .glo "is_fraction", .glo "plus", .glo "minus", .glo "is_unit_of", .glo "unitless", .glo "unit_plus", .glo "unit_minus", .glo "is_part", .glo "is_cell", .glo "check_rows", .glo "check_cell", .glo "turned_rows", .glo "check_square_grid", .glo "put_unlike", .glo "power_marks", .glo "power_verdict", .glo "led_pairs", .glo "differences_ahead", .glo "raw_differences", .glo "keeps", .glo "longer_by_one", .glo "unlike_in", .glo "unlike_rows", .glo "_law_hand", .glo "_law_draw", .glo "_law_lowest", .glo "_law_plus", .glo "_law_times", .glo "_law_unit_sum", .glo "_law_unitless", .glo "_law_total", .glo "_law_unit", .glo "_law_rows", .glo "_law_drawn", .glo "_law_made", .glo "_law_evened", .glo "_law_steps_on", .glo "_law_next", .glo "_law_whole_unit", .glo "_law_great", .glo "_law_sided", .glo "_law_raised", .glo "_law_great_right", .glo "_law_shortest", .glo "law", .glo "GridError", .glo "BadGrid", .glo "NoCell", .glo "NoNumber", .glo "NotSquare", .glo "Grid", .cls "Grid", .mkr "Grid", .noat "Grid" "bases", .noat "Grid" "rows", .free "isinstance", .free "int", .free "bool", .free "tuple", .free "list", .free "len", .free "abs", .free "all", .free "any", .free "enumerate", .free "zip", .free "range", .free "ValueError", .int "MOST_BASES" 3, .int "MOST_ROWS" 10, .int "MOST_TOP" 6, .int "MOST_BOTTOM" 4, .int "MOST_VERDICT" 200]
abbrev RH : PySem.W.OpenRow := PySem.W.OpenLaw.row PySem.Challenge.rw_unitgrids_k76_whole_grids_all_of_whose_p
abbrev hkH : PySem.W.Hook := He.hookD 5 faH fnH
def obH (s : PySem.W.SharedT) : He.AlD := He.obsDG 5 faH fnH (HandSHeadRun.getT s)
theorem obH_eq (s : PySem.W.SharedT) : obH s = hkH.obs s.abs := He.obsDG_eq (HandSHeadRun.getT_eq s)
def lsH0 : List Str := ["GridError", "BadGrid", "NoCell", "NoNumber", "NotSquare", "is_integer", "is_within", "check_number", "divisor", "lowest", "is_fraction", "plus", "minus", "is_unit_of", "unitless", "unit_plus", "unit_minus", "MOST_BASES", "MOST_ROWS", "MOST_TOP", "MOST_BOTTOM", "is_part", "is_cell", "check_rows", "Grid", "check_cell", "turned_rows", "check_square_grid", "MOST_VERDICT", "put_unlike"]
def lsH1 : List Str := ["power_marks", "power_verdict", "led_pairs", "differences_ahead", "raw_differences", "keeps", "longer_by_one", "unlike_in", "unlike_rows", "_law_hand", "_law_draw", "_law_lowest", "_law_plus", "_law_times", "_law_unit_sum", "_law_unitless", "_law_total", "_law_unit", "_law_rows", "_law_drawn", "_law_made", "_law_evened", "_law_steps_on", "_law_next", "_law_whole_unit", "_law_great", "_law_sided", "_law_raised", "_law_great_right", "_law_shortest"]
def lsH : List Str := lsH0 ++ lsH1
theorem runH (w : World) : HandSHeadRun.RunEq RH (PySem.W.view RH.prog [67]) hkH obH 3000 lsH w := by
  intro os
  kernel_rfl

theorem facts {P : Program} {w : World} {K : PySem.W.Frag} {h : Heap} {mg : Str → Option Value} {f : Addr} (X : K.In h) (G : h.Ns mainGlobals mg) (hfa : mg ("law" : Str) = some (.ref f)) (c : He.SaysD faH fnH K) :
    ∃ fd : FuncData, (∀ (s : Shared) (v : Value), BindsTo s fd ⟨[v], []⟩ [("_law_script", v)]) ∧ ∀ base : Heap, K.In base → base.Ns mainGlobals mg → FnOk P w K mg base (L2.CX P w) 11 f fd ["_law_script"] (spOf K S_law) := by
  obtain ⟨fd, F⟩ := c.def_ 50 rfl
  have e := hfa.symm.trans (He.glo_ok X G (c.fact 49 (f := .glo "law") rfl))
  cases e
  have b := FunD.bindsA (ps := ["_law_script"]) F fun _ _ _ _ _ _ us hl => match us, hl with | [_], _ => rfl
  refine ⟨fd, fun s v => b s [v] rfl, fun base _ _ => ?_⟩
  have GC : GridC ⟨P, w, K, mg, base⟩ (He.ga K "Grid") (He.ma K (He.ga K "Grid") "__init__") := ⟨He.glo_ok X G (c.fact 55 (f := .glo "Grid") rfl), He.mkr_ok (c.fact 57 (f := .mkr "Grid") rfl), He.cls_ok (c.fact 56 (f := .cls "Grid") rfl), He.noat_ok (c.fact 58 (f := .noat "Grid" "bases") rfl), He.noat_ok (c.fact 59 (f := .noat "Grid" "rows") rfl)⟩
  obtain ⟨fdG, FGrid⟩ := c.def_ 15 rfl
  have F_is_integer := f_is_integer (g := ⟨P, w, K, mg, base⟩) (by obtain ⟨fd, F⟩ := c.def_ 0 rfl; exact ⟨_, fd, He.glo_ok X G (c.fact 0 (f := .glo "is_integer") rfl), F⟩) (He.free_ok X G (c.fact 60 (f := .free "isinstance") rfl)) (He.free_ok X G (c.fact 61 (f := .free "int") rfl)) (He.free_ok X G (c.fact 62 (f := .free "bool") rfl))
  have F_is_within := f_is_within (g := ⟨P, w, K, mg, base⟩) (by obtain ⟨fd, F⟩ := c.def_ 1 rfl; exact ⟨_, fd, He.glo_ok X G (c.fact 1 (f := .glo "is_within") rfl), F⟩) F_is_integer
  have F_divisor := f_divisor (g := ⟨P, w, K, mg, base⟩) (by obtain ⟨fd, F⟩ := c.def_ 3 rfl; exact ⟨_, fd, He.glo_ok X G (c.fact 3 (f := .glo "divisor") rfl), F⟩) (He.free_ok X G (c.fact 66 (f := .free "abs") rfl))
  have F_lowest := f_lowest (g := ⟨P, w, K, mg, base⟩) (by obtain ⟨fd, F⟩ := c.def_ 4 rfl; exact ⟨_, fd, He.glo_ok X G (c.fact 4 (f := .glo "lowest") rfl), F⟩) F_divisor
  have F_is_fraction := f_is_fraction (g := ⟨P, w, K, mg, base⟩) (by obtain ⟨fd, F⟩ := c.def_ 5 rfl; exact ⟨_, fd, He.glo_ok X G (c.fact 5 (f := .glo "is_fraction") rfl), F⟩) F_divisor F_is_integer (He.free_ok X G (c.fact 60 (f := .free "isinstance") rfl)) (He.free_ok X G (c.fact 63 (f := .free "tuple") rfl)) (He.free_ok X G (c.fact 65 (f := .free "len") rfl))
  have F_plus := f_plus (g := ⟨P, w, K, mg, base⟩) (by obtain ⟨fd, F⟩ := c.def_ 6 rfl; exact ⟨_, fd, He.glo_ok X G (c.fact 6 (f := .glo "plus") rfl), F⟩) F_lowest
  have F_minus := f_minus (g := ⟨P, w, K, mg, base⟩) (by obtain ⟨fd, F⟩ := c.def_ 7 rfl; exact ⟨_, fd, He.glo_ok X G (c.fact 7 (f := .glo "minus") rfl), F⟩) F_lowest
  have F_unitless := f_unitless (g := ⟨P, w, K, mg, base⟩) (by obtain ⟨fd, F⟩ := c.def_ 9 rfl; exact ⟨_, fd, He.glo_ok X G (c.fact 9 (f := .glo "unitless") rfl), F⟩)
  have F_unit_plus := f_unit_plus (g := ⟨P, w, K, mg, base⟩) (by obtain ⟨fd, F⟩ := c.def_ 10 rfl; exact ⟨_, fd, He.glo_ok X G (c.fact 10 (f := .glo "unit_plus") rfl), F⟩) F_plus (He.free_ok X G (c.fact 63 (f := .free "tuple") rfl)) (He.free_ok X G (c.fact 70 (f := .free "zip") rfl))
  have F_unit_minus := f_unit_minus (g := ⟨P, w, K, mg, base⟩) (by obtain ⟨fd, F⟩ := c.def_ 11 rfl; exact ⟨_, fd, He.glo_ok X G (c.fact 11 (f := .glo "unit_minus") rfl), F⟩) F_minus (He.free_ok X G (c.fact 63 (f := .free "tuple") rfl)) (He.free_ok X G (c.fact 70 (f := .free "zip") rfl))
  have F_is_unit_of := f_is_unit_of (g := ⟨P, w, K, mg, base⟩) (by obtain ⟨fd, F⟩ := c.def_ 8 rfl; exact ⟨_, fd, He.glo_ok X G (c.fact 8 (f := .glo "is_unit_of") rfl), F⟩) F_is_fraction (He.free_ok X G (c.fact 60 (f := .free "isinstance") rfl)) (He.free_ok X G (c.fact 63 (f := .free "tuple") rfl)) (He.free_ok X G (c.fact 65 (f := .free "len") rfl)) (He.free_ok X G (c.fact 67 (f := .free "all") rfl))
  have F_is_part := f_is_part (g := ⟨P, w, K, mg, base⟩) (by obtain ⟨fd, F⟩ := c.def_ 12 rfl; exact ⟨_, fd, He.glo_ok X G (c.fact 12 (f := .glo "is_part") rfl), F⟩) (He.free_ok X G (c.fact 60 (f := .free "isinstance") rfl)) (He.free_ok X G (c.fact 63 (f := .free "tuple") rfl)) (He.free_ok X G (c.fact 65 (f := .free "len") rfl)) (by obtain ⟨t, e⟩ := He.int_ok X G (c.fact 74 (f := .int "MOST_ROWS" 10) rfl); exact ⟨.int 10 t, .int 10, e, ⟨t, rfl⟩, fun F => by simp only [Rep]⟩)
  have F_is_cell := f_is_cell (g := ⟨P, w, K, mg, base⟩) (by obtain ⟨fd, F⟩ := c.def_ 13 rfl; exact ⟨_, fd, He.glo_ok X G (c.fact 13 (f := .glo "is_cell") rfl), F⟩) F_is_unit_of (He.free_ok X G (c.fact 66 (f := .free "abs") rfl)) (He.free_ok X G (c.fact 67 (f := .free "all") rfl)) (by obtain ⟨t, e⟩ := He.int_ok X G (c.fact 75 (f := .int "MOST_TOP" 6) rfl); exact ⟨.int 6 t, .int 6, e, ⟨t, rfl⟩, fun F => by simp only [Rep]⟩) (by obtain ⟨t, e⟩ := He.int_ok X G (c.fact 76 (f := .int "MOST_BOTTOM" 4) rfl); exact ⟨.int 4 t, .int 4, e, ⟨t, rfl⟩, fun F => by simp only [Rep]⟩)
  have F_check_rows := f_check_rows (g := ⟨P, w, K, mg, base⟩) (by obtain ⟨fd, F⟩ := c.def_ 14 rfl; exact ⟨_, fd, He.glo_ok X G (c.fact 14 (f := .glo "check_rows") rfl), F⟩) F_is_part F_is_cell (He.free_ok X G (c.fact 69 (f := .free "enumerate") rfl)) (He.free_ok X G (c.fact 65 (f := .free "len") rfl))
  have F_Grid_init := f_Grid_init (g := ⟨P, w, K, mg, base⟩) (C := He.ga K "Grid") GC FGrid F_is_part F_check_rows F_is_within (by obtain ⟨t, e⟩ := He.int_ok X G (c.fact 73 (f := .int "MOST_BASES" 3) rfl); exact ⟨.int 3 t, .int 3, e, ⟨t, rfl⟩, fun F => by simp only [Rep]⟩)
  have F_turned_rows := f_turned_rows (g := ⟨P, w, K, mg, base⟩) (by obtain ⟨fd, F⟩ := c.def_ 17 rfl; exact ⟨_, fd, He.glo_ok X G (c.fact 16 (f := .glo "turned_rows") rfl), F⟩) (He.free_ok X G (c.fact 71 (f := .free "range") rfl)) (He.free_ok X G (c.fact 65 (f := .free "len") rfl))
  have F_check_square_grid := f_check_square_grid (g := ⟨P, w, K, mg, base⟩) (C := He.ga K "Grid") GC (by obtain ⟨fd, F⟩ := c.def_ 18 rfl; exact ⟨_, fd, He.glo_ok X G (c.fact 17 (f := .glo "check_square_grid") rfl), F⟩) (He.free_ok X G (c.fact 65 (f := .free "len") rfl))
  have F_led_pairs := f_led_pairs (g := ⟨P, w, K, mg, base⟩) (by obtain ⟨fd, F⟩ := c.def_ 22 rfl; exact ⟨_, fd, He.glo_ok X G (c.fact 21 (f := .glo "led_pairs") rfl), F⟩) F_unit_minus (He.free_ok X G (c.fact 69 (f := .free "enumerate") rfl))
  have F_differences_ahead := f_differences_ahead (g := ⟨P, w, K, mg, base⟩) (by obtain ⟨fd, F⟩ := c.def_ 23 rfl; exact ⟨_, fd, He.glo_ok X G (c.fact 22 (f := .glo "differences_ahead") rfl), F⟩) F_unitless F_led_pairs F_unit_plus (He.free_ok X G (c.fact 71 (f := .free "range") rfl)) (He.free_ok X G (c.fact 65 (f := .free "len") rfl)) (He.free_ok X G (c.fact 64 (f := .free "list") rfl))
  have F_raw_differences := f_raw_differences (g := ⟨P, w, K, mg, base⟩) (by obtain ⟨fd, F⟩ := c.def_ 24 rfl; exact ⟨_, fd, He.glo_ok X G (c.fact 23 (f := .glo "raw_differences") rfl), F⟩) F_differences_ahead F_turned_rows F_led_pairs F_unit_plus
  have F_keeps := f_keeps (g := ⟨P, w, K, mg, base⟩) (C := He.ga K "Grid") GC (by obtain ⟨fd, F⟩ := c.def_ 25 rfl; exact ⟨_, fd, He.glo_ok X G (c.fact 24 (f := .glo "keeps") rfl), F⟩) F_check_square_grid F_raw_differences
  have F__law_hand := f__law_hand (g := ⟨P, w, K, mg, base⟩) (by obtain ⟨fd, F⟩ := c.def_ 29 rfl; exact ⟨_, fd, He.glo_ok X G (c.fact 28 (f := .glo "_law_hand") rfl), F⟩) (He.free_ok X G (c.fact 66 (f := .free "abs") rfl)) (He.free_ok X G (c.fact 61 (f := .free "int") rfl)) (He.free_ok X G (c.fact 65 (f := .free "len") rfl))
  have F__law_draw := f__law_draw (g := ⟨P, w, K, mg, base⟩) (by obtain ⟨fd, F⟩ := c.def_ 30 rfl; exact ⟨_, fd, He.glo_ok X G (c.fact 29 (f := .glo "_law_draw") rfl), F⟩) (He.free_ok X G (c.fact 61 (f := .free "int") rfl)) (He.free_ok X G (c.fact 65 (f := .free "len") rfl))
  have F__law_lowest := f__law_lowest (g := ⟨P, w, K, mg, base⟩) (by obtain ⟨fd, F⟩ := c.def_ 31 rfl; exact ⟨_, fd, He.glo_ok X G (c.fact 30 (f := .glo "_law_lowest") rfl), F⟩) (He.free_ok X G (c.fact 66 (f := .free "abs") rfl)) (He.free_ok X G (c.fact 61 (f := .free "int") rfl))
  have F__law_plus := f__law_plus (g := ⟨P, w, K, mg, base⟩) (by obtain ⟨fd, F⟩ := c.def_ 32 rfl; exact ⟨_, fd, He.glo_ok X G (c.fact 31 (f := .glo "_law_plus") rfl), F⟩) F__law_lowest
  have F__law_unitless := f__law_unitless (g := ⟨P, w, K, mg, base⟩) (by obtain ⟨fd, F⟩ := c.def_ 35 rfl; exact ⟨_, fd, He.glo_ok X G (c.fact 34 (f := .glo "_law_unitless") rfl), F⟩)
  have F__law_unit_sum := f__law_unit_sum (g := ⟨P, w, K, mg, base⟩) (by obtain ⟨fd, F⟩ := c.def_ 34 rfl; exact ⟨_, fd, He.glo_ok X G (c.fact 33 (f := .glo "_law_unit_sum") rfl), F⟩) F__law_plus (He.free_ok X G (c.fact 63 (f := .free "tuple") rfl)) (He.free_ok X G (c.fact 70 (f := .free "zip") rfl))
  have F__law_unit := f__law_unit (g := ⟨P, w, K, mg, base⟩) (by obtain ⟨fd, F⟩ := c.def_ 37 rfl; exact ⟨_, fd, He.glo_ok X G (c.fact 36 (f := .glo "_law_unit") rfl), F⟩) F__law_draw F__law_lowest (He.free_ok X G (c.fact 63 (f := .free "tuple") rfl)) (He.free_ok X G (c.fact 71 (f := .free "range") rfl))
  have F__law_rows := f__law_rows (g := ⟨P, w, K, mg, base⟩) (by obtain ⟨fd, F⟩ := c.def_ 38 rfl; exact ⟨_, fd, He.glo_ok X G (c.fact 37 (f := .glo "_law_rows") rfl), F⟩) F__law_draw F__law_unit F__law_unit_sum (He.free_ok X G (c.fact 63 (f := .free "tuple") rfl)) (He.free_ok X G (c.fact 71 (f := .free "range") rfl))
  have F__law_evened := f__law_evened (g := ⟨P, w, K, mg, base⟩) (by obtain ⟨fd, F⟩ := c.def_ 41 rfl; exact ⟨_, fd, He.glo_ok X G (c.fact 40 (f := .glo "_law_evened") rfl), F⟩) F__law_draw F__law_unit F__law_unit_sum F__law_rows (He.free_ok X G (c.fact 63 (f := .free "tuple") rfl)) (He.free_ok X G (c.fact 71 (f := .free "range") rfl))
  have F_put_unlike := f_put_unlike (g := ⟨P, w, K, mg, base⟩) (by obtain ⟨fd, F⟩ := c.def_ 19 rfl; exact ⟨_, fd, He.glo_ok X G (c.fact 18 (f := .glo "put_unlike") rfl), F⟩) (He.free_ok X G (c.fact 65 (f := .free "len") rfl))
  have F_longer_by_one := f_longer_by_one (g := ⟨P, w, K, mg, base⟩) (by obtain ⟨fd, F⟩ := c.def_ 26 rfl; exact ⟨_, fd, He.glo_ok X G (c.fact 25 (f := .glo "longer_by_one") rfl), F⟩) F_led_pairs F_put_unlike F_unit_plus
  have F_unlike_in := f_unlike_in (g := ⟨P, w, K, mg, base⟩) (by obtain ⟨fd, F⟩ := c.def_ 27 rfl; exact ⟨_, fd, He.glo_ok X G (c.fact 26 (f := .glo "unlike_in") rfl), F⟩) F_unitless
  have F_unlike_rows := f_unlike_rows (g := ⟨P, w, K, mg, base⟩) (C := He.ga K "Grid") GC (by obtain ⟨fd, F⟩ := c.def_ 28 rfl; exact ⟨_, fd, He.glo_ok X G (c.fact 27 (f := .glo "unlike_rows") rfl), F⟩) F_check_square_grid F_raw_differences F_longer_by_one F_unlike_in F_unitless (He.free_ok X G (c.fact 71 (f := .free "range") rfl)) (He.free_ok X G (c.fact 65 (f := .free "len") rfl))
  have F_check_number := f_check_number (g := ⟨P, w, K, mg, base⟩) (by obtain ⟨fd, F⟩ := c.def_ 2 rfl; exact ⟨_, fd, He.glo_ok X G (c.fact 2 (f := .glo "check_number") rfl), F⟩) F_is_within
  have F_check_cell := f_check_cell (g := ⟨P, w, K, mg, base⟩) (by obtain ⟨fd, F⟩ := c.def_ 16 rfl; exact ⟨_, fd, He.glo_ok X G (c.fact 15 (f := .glo "check_cell") rfl), F⟩) F_is_within
  have F_power_marks := f_power_marks (g := ⟨P, w, K, mg, base⟩) (by obtain ⟨fd, F⟩ := c.def_ 20 rfl; exact ⟨_, fd, He.glo_ok X G (c.fact 19 (f := .glo "power_marks") rfl), F⟩) F_unitless F_unit_plus F_put_unlike (He.free_ok X G (c.fact 71 (f := .free "range") rfl)) (He.free_ok X G (c.fact 69 (f := .free "enumerate") rfl))
  have F_power_verdict := f_power_verdict (g := ⟨P, w, K, mg, base⟩) (C := He.ga K "Grid") GC (by obtain ⟨fd, F⟩ := c.def_ 21 rfl; exact ⟨_, fd, He.glo_ok X G (c.fact 20 (f := .glo "power_verdict") rfl), F⟩) F_check_square_grid F_check_number F_check_cell F_power_marks (He.free_ok X G (c.fact 65 (f := .free "len") rfl)) (by obtain ⟨t, e⟩ := He.int_ok X G (c.fact 77 (f := .int "MOST_VERDICT" 200) rfl); exact ⟨.int 200 t, .int 200, e, ⟨t, rfl⟩, fun F => by simp only [Rep]⟩)
  have F__law_steps_on := f__law_steps_on (g := ⟨P, w, K, mg, base⟩) (by obtain ⟨fd, F⟩ := c.def_ 42 rfl; exact ⟨_, fd, He.glo_ok X G (c.fact 41 (f := .glo "_law_steps_on") rfl), F⟩) F__law_unitless
  have F__law_next := f__law_next (g := ⟨P, w, K, mg, base⟩) (by obtain ⟨fd, F⟩ := c.def_ 43 rfl; exact ⟨_, fd, He.glo_ok X G (c.fact 42 (f := .glo "_law_next") rfl), F⟩) F__law_unit_sum (He.free_ok X G (c.fact 65 (f := .free "len") rfl)) (He.free_ok X G (c.fact 69 (f := .free "enumerate") rfl))
  have F__law_shortest := f__law_shortest (g := ⟨P, w, K, mg, base⟩) (by obtain ⟨fd, F⟩ := c.def_ 49 rfl; exact ⟨_, fd, He.glo_ok X G (c.fact 48 (f := .glo "_law_shortest") rfl), F⟩) F__law_steps_on F__law_next (He.free_ok X G (c.fact 65 (f := .free "len") rfl)) (He.free_ok X G (c.fact 71 (f := .free "range") rfl)) (He.free_ok X G (c.fact 68 (f := .free "any") rfl))
  have F__law_whole_unit := f__law_whole_unit (g := ⟨P, w, K, mg, base⟩) (by obtain ⟨fd, F⟩ := c.def_ 44 rfl; exact ⟨_, fd, He.glo_ok X G (c.fact 43 (f := .glo "_law_whole_unit") rfl), F⟩) F__law_draw (He.free_ok X G (c.fact 63 (f := .free "tuple") rfl)) (He.free_ok X G (c.fact 71 (f := .free "range") rfl))
  have F__law_raised := f__law_raised (g := ⟨P, w, K, mg, base⟩) (by obtain ⟨fd, F⟩ := c.def_ 47 rfl; exact ⟨_, fd, He.glo_ok X G (c.fact 46 (f := .glo "_law_raised") rfl), F⟩) F__law_draw F__law_whole_unit F__law_unit_sum (He.free_ok X G (c.fact 71 (f := .free "range") rfl))
  have F__law_great := f__law_great (g := ⟨P, w, K, mg, base⟩) (by obtain ⟨fd, F⟩ := c.def_ 45 rfl; exact ⟨_, fd, He.glo_ok X G (c.fact 44 (f := .glo "_law_great") rfl), F⟩) F__law_draw F__law_unit_sum (He.free_ok X G (c.fact 63 (f := .free "tuple") rfl)) (He.free_ok X G (c.fact 71 (f := .free "range") rfl)) (He.free_ok X G (c.fact 65 (f := .free "len") rfl)) (He.free_ok X G (c.fact 61 (f := .free "int") rfl))
  have F__law_great_right := f__law_great_right (g := ⟨P, w, K, mg, base⟩) (C := He.ga K "Grid") GC (by obtain ⟨fd, F⟩ := c.def_ 48 rfl; exact ⟨_, fd, He.glo_ok X G (c.fact 47 (f := .glo "_law_great_right") rfl), F⟩) F_Grid_init F__law_draw F__law_raised F__law_great F__law_unit_sum F_keeps F_power_verdict (He.free_ok X G (c.fact 71 (f := .free "range") rfl)) (He.free_ok X G (c.fact 65 (f := .free "len") rfl))
  exact fnI_ok (g := ⟨P, w, K, mg, base⟩) F sc_law nk_law (fun zs rs P P2 h => by obtain ⟨ns, rfl, _⟩ := h; rfl) fun zs rs P' P2 h => body_law (g := ⟨P, w, K, mg, base⟩) GC F_Grid_init F__law_hand F__law_draw F__law_great_right F__law_evened F_unlike_rows F_power_verdict F_keeps F__law_shortest (He.free_ok X G (c.fact 71 (f := .free "range") rfl)) (He.free_ok X G (c.fact 60 (f := .free "isinstance") rfl)) (He.free_ok X G (c.fact 62 (f := .free "bool") rfl)) (He.free_ok X G (c.fact 65 (f := .free "len") rfl)) (He.free_ok X G (c.fact 68 (f := .free "any") rfl)) (He.free_ok X G (c.fact 63 (f := .free "tuple") rfl)) (He.free_ok X G (c.fact 69 (f := .free "enumerate") rfl)) zs rs P' P2 h
end Y
open PySem PySem.W PySem.Calls PyProof.Rows
set_option maxHeartbeats 0
theorem PySem.Challenge.cw_unitgrids_k76_whole_grids_all_of_whose_p_holds : PySem.Challenge.rw_unitgrids_k76_whole_grids_all_of_whose_p.Holds := by
  w_on; o_law
  refine HandSHeadRun.head_any (r := OpenLaw.row PySem.Challenge.rw_unitgrids_k76_whole_grids_all_of_whose_p) (q := view (OpenLaw.row PySem.Challenge.rw_unitgrids_k76_whole_grids_all_of_whose_p).prog [67]) (H := Y.hkH) (ob := Y.obH) (M := 3000) (loose := Y.lsH) (d := HandSHeadRun.topDef (OpenLaw.row PySem.Challenge.rw_unitgrids_k76_whole_grids_all_of_whose_p).prog 67) (kwd := []) Y.obH_eq
    (by kernel_rfl) (fun s => by kernel_rfl) Y.runH (by kernel_rfl) (by kernel_rfl) (by kernel_rfl) (by rfl) (by first | assumption | decide +kernel) (by decide +kernel) ⟨rfl, rfl, rfl, rfl, rfl, by decide +kernel⟩ ?hw ?hc
  case hw => w_witness2
  case hc =>
    refine Y.walkY (l := PySem.Challenge.rw_unitgrids_k76_whole_grids_all_of_whose_p) (k := 11) (x := "_law_script") rfl (by kernel_rfl) ⟨rfl, by decide, by decide⟩ ?F
    intro w mg fa h Yh G hmg0
    obtain ⟨K, KX, c⟩ := Yh
    have hmg : mg ("law" : PySem.Str) = some (.ref fa) := by
      have e : (HandSHeadRun.topDef (OpenLaw.row PySem.Challenge.rw_unitgrids_k76_whole_grids_all_of_whose_p).prog 67).name = ("law" : PySem.Str) := by kernel_rfl
      rw [← e]
      exact hmg0
    obtain ⟨fd, hb, hF⟩ := Y.facts (P := (PySem.Challenge.rw_unitgrids_k76_whole_grids_all_of_whose_p).prog) (w := w) KX G hmg c
    exact ⟨K, fd, KX, hb, hF⟩
